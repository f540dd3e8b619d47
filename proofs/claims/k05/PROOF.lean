import PyProof.Rows.All
import Wide.All
import OpenK.AllK
import Wide.FinOn
import HandS.ForMost
import HandS.ForExc
import HandS.Walk
import HandS.IsInst
import HandS.StrMore
import HandS.SortInts
import HandS.Style
import PySem.Challenge.RW_letterhouse_k05_sixty_told
set_option Elab.async false
set_option linter.all false
set_option maxRecDepth 100000
/-! Own layer, part 1: Python data as trees; what expressions and statements tell, as plain functions. -/
namespace G

abbrev Tx := List Nat
def LINE : Nat := 16777216

/-- data; o: whether the node is owned (nobody else holds it) -/
inductive D where
  | non
  | bl (b : Bool)
  | int (i : Int)
  | str (s : Tx)
  | lst (o : Bool) (xs : List D)
  | tup (o : Bool) (xs : List D)
  | dic (o : Bool) (ks : List (Sum Int Tx)) (vs : List D)
  | ins (o : Bool) (c : String) (fs : List String) (vs : List D)
  | scr (ns : List Int)

instance : Inhabited D := ⟨.non⟩

/-! ### flags -/
mutual
/-- nothing owned within -/
def D.sh : D → Bool
  | .lst o xs => !o && shs xs
  | .tup o xs => !o && shs xs
  | .dic o _ vs => !o && shs vs
  | .ins o _ _ vs => !o && shs vs
  | .scr _ => true
  | .non => true
  | .bl _ => true
  | .int _ => true
  | .str _ => true
def shs : List D → Bool
  | [] => true
  | x :: xs => x.sh && shs xs
end
mutual
/-- all nodes owned -/
def D.ow : D → Bool
  | .lst o xs => o && ows xs
  | .tup o xs => o && ows xs
  | .dic o _ vs => o && ows vs
  | .ins o _ _ vs => o && ows vs
  | .scr _ => false
  | .non => true
  | .bl _ => true
  | .int _ => true
  | .str _ => true
def ows : List D → Bool
  | [] => true
  | x :: xs => x.ow && ows xs
end
mutual
/-- shared all through -/
def D.frz : D → D
  | .lst _ xs => .lst false (frzs xs)
  | .tup _ xs => .tup false (frzs xs)
  | .dic _ ks vs => .dic false ks (frzs vs)
  | .ins _ c fs vs => .ins false c fs (frzs vs)
  | .scr ns => .scr ns
  | .non => .non
  | .bl b => .bl b
  | .int i => .int i
  | .str s => .str s
def frzs : List D → List D
  | [] => []
  | x :: xs => x.frz :: frzs xs
end
mutual
/-- equality as Python's ==, of data without dicts and instances -/
def D.eqv : D → D → Bool
  | .non, .non => true
  | .bl a, .bl b => a == b
  | .bl a, .int j => (if a then 1 else 0) == j
  | .int i, .bl b => i == (if b then 1 else 0)
  | .int i, .int j => i == j
  | .str x, .str y => x == y
  | .lst _ xs, .lst _ ys => eqvs xs ys
  | .tup _ xs, .tup _ ys => eqvs xs ys
  | _, _ => false
def eqvs : List D → List D → Bool
  | [], [] => true
  | x :: xs, y :: ys => x.eqv y && eqvs xs ys
  | _, _ => false
end
mutual
/-- plain data (no dict, no instance), how deep -/
def D.pl : D → Bool
  | .lst _ xs => pls xs
  | .tup _ xs => pls xs
  | .dic _ _ _ => false
  | .ins _ _ _ _ => false
  | .scr _ => false
  | .non => true
  | .bl _ => true
  | .int _ => true
  | .str _ => true
def pls : List D → Bool
  | [] => true
  | x :: xs => x.pl && pls xs
end
mutual
def D.dep : D → Nat
  | .lst _ xs => deps xs + 1
  | .tup _ xs => deps xs + 1
  | .dic _ _ vs => deps vs + 1
  | .ins _ _ _ vs => deps vs + 1
  | .scr _ => 1
  | .non => 0
  | .bl _ => 0
  | .int _ => 0
  | .str _ => 0
def deps : List D → Nat
  | [] => 0
  | x :: xs => max x.dep (deps xs)
end

/-- a thing that is no object of several parts -/
def D.fl : D → Bool
  | .non => true
  | .bl _ => true
  | .int _ => true
  | .str _ => true
  | _ => false

/-! ### results -/
inductive Res (α : Type) where
  | no
  | ok (a : α)
  | ex (c : String) (fs : List D)
def Res.bind {α β : Type} : Res α → (α → Res β) → Res β
  | .no, _ => .no
  | .ok a, f => f a
  | .ex c fs, _ => .ex c fs
def Res.of {α : Type} : Option α → Res α
  | none => .no
  | some a => .ok a
/-- what raises is not told -/
def Res.nox {α : Type} : Res α → Res α
  | .ex _ _ => .no
  | r => r

abbrev Env := List (Option D)
abbrev E := Env → Res D

def get (ρ : Env) (i : Nat) : Res D := match ρ[i]? with
  | some (some d) => .ok d
  | _ => .no
def put (ρ : Env) (i : Nat) (d : D) : Env := ρ.set i (some d)

/-! ### expressions -/
def eC (d : D) : E := fun _ => .ok d
/-- a name that is looked at -/
def eO (i : Nat) : E := fun ρ => get ρ i
/-- a name whose value goes on: nothing owned in it -/
def eV (i : Nat) : E := fun ρ => (get ρ i).bind fun d => if d.sh then .ok d else .no
/-- shared from here on -/
def eFrz (e : E) : E := fun ρ => (e ρ).bind fun d => .ok d.frz
def e1 (f : D → Option D) (a : E) : E := fun ρ => (a ρ).bind fun x => Res.of (f x)
def e2 (f : D → D → Option D) (a b : E) : E := fun ρ => (a ρ).bind fun x => (b ρ).bind fun y => Res.of (f x y)
def e3 (f : D → D → D → Option D) (a b c : E) : E := fun ρ => (a ρ).bind fun x => (b ρ).bind fun y => (c ρ).bind fun z => Res.of (f x y z)
def D.isS : D → Bool
  | .str _ => true
  | _ => false
/-- a method of a text with one argument -/
def e2s (f : D → D → Option D) (a b : E) : E := fun ρ => (a ρ).bind fun x => if x.isS then (b ρ).bind fun y => Res.of (f x y) else .no
def eAnd (a b : E) : E := fun ρ => (a ρ).bind fun x => match x with
  | .bl true => b ρ
  | .bl false => .ok (.bl false)
  | _ => .no
def eOr (a b : E) : E := fun ρ => (a ρ).bind fun x => match x with
  | .bl true => .ok (.bl true)
  | .bl false => b ρ
  | _ => .no
def fNot : D → Option D
  | .bl b => some (.bl (!b))
  | _ => none
def eNot (a : E) : E := e1 fNot a
def eIf (c a b : E) : E := fun ρ => (c ρ).bind fun x => match x with
  | .bl true => a ρ
  | .bl false => b ρ
  | _ => .no
/-- a < b < c -/
def eChain (f g : D → D → Option D) (a b c : E) : E := fun ρ => (a ρ).bind fun x => (b ρ).bind fun y => (Res.of (f x y)).bind fun k => match k with
  | .bl true => (c ρ).bind fun z => Res.of (g y z)
  | .bl false => .ok (.bl false)
  | _ => .no
def eArgs : List E → Env → Res (List D)
  | [], _ => .ok []
  | e :: es, ρ => (e ρ).bind fun d => (eArgs es ρ).bind fun ds => .ok (d :: ds)
def eL (es : List E) : E := fun ρ => (eArgs es ρ).bind fun ds => .ok (.lst true ds)
def eT (es : List E) : E := fun ρ => (eArgs es ρ).bind fun ds => .ok (.tup true ds)
/-- {} -/
def eD0 : E := fun _ => .ok (.dic true [] [])
/-- {k: c, ..} of constants -/
def eDc (ks : List (Sum Int Tx)) (ds : List D) : E := fun _ => .ok (.dic true ks ds)
/-- a call without arguments, of a def that doesn't raise -/
def eCall0 (f : List D → Res D) : E := fun _ => (f []).nox
def eCall (f : List D → Res D) (es : List E) : E := fun ρ => (eArgs es ρ).bind fun ds => (f (frzs ds)).bind fun r => if r.ow || shs ds then .ok r else .no

/-! ### what is walked -/
abbrev I := Env → Res (List D)
/-- a list's items, as it stands (in a comprehension) -/
def iLst (e : E) : I := fun ρ => (e ρ).bind fun d => match d with
  | .lst _ xs => .ok xs
  | .scr ns => .ok (ns.map .int)
  | _ => .no
def iTup (e : E) : I := fun ρ => (e ρ).bind fun d => match d with
  | .tup _ xs => .ok xs
  | _ => .no
/-- .. of a shared one (in a statement) -/
def iLstS (e : E) : I := fun ρ => (e ρ).bind fun d => match d with
  | .lst false xs => .ok xs
  | .scr ns => .ok (ns.map .int)
  | _ => .no
def iTupS (e : E) : I := fun ρ => (e ρ).bind fun d => match d with
  | .tup false xs => .ok xs
  | _ => .no
def iStr (e : E) : I := fun ρ => (e ρ).bind fun d => match d with
  | .str s => .ok (s.map fun c => .str [c])
  | _ => .no
def rangeD (lo : Int) (n : Nat) : List D := (List.range n).map fun (k : Nat) => .int (lo + (k : Int))
def fits62 (i : Int) : Bool := decide (-4611686018427387904 ≤ i) && decide (i < 4611686018427387904)
def iRange1 (e : E) : I := fun ρ => (e ρ).bind fun d => match d with
  | .int n => if fits62 n then .ok (rangeD 0 n.toNat) else .no
  | _ => .no
def iRange2 (a b : E) : I := fun ρ => (a ρ).bind fun x => (b ρ).bind fun y => match x, y with
  | .int i, .int j => if fits62 i && fits62 j then .ok (rangeD i (j - i).toNat) else .no
  | _, _ => .no
def rangeC (lo c : Int) (n : Nat) : List D := (List.range n).map fun (k : Nat) => .int (lo + (k : Int) * c)
/-- how many turns: range(i, j, c) with c above nought -/
def turnsC (i j c : Int) : Nat := ((j - i + c - 1) / c).toNat
def iRange3 (a b : E) (c : Int) : I := fun ρ => (a ρ).bind fun x => (b ρ).bind fun y => match x, y with
  | .int i, .int j => if fits62 i && fits62 j && decide (0 < c) && decide (c < 1073741824) then .ok (rangeC i c (turnsC i j c)) else .no
  | _, _ => .no
def enumFrom : Int → List D → List D
  | _, [] => []
  | k, x :: xs => .tup true [.int k, x] :: enumFrom (k + 1) xs
def iEnum (i : I) : I := fun ρ => (i ρ).bind fun xs => .ok (enumFrom 0 xs)
def zipD : List D → List D → List D
  | x :: xs, y :: ys => .tup true [x, y] :: zipD xs ys
  | _, _ => []

def eYes : E := fun _ => .ok (.bl true)
/-- a target: how an item is bound -/
abbrev B := D → Env → Res Env
def bN (i : Nat) : B := fun d ρ => if d.sh then .ok (put ρ i d) else .no
def bNs : List Nat → List D → Env → Res Env
  | [], [], ρ => .ok ρ
  | i :: is, d :: ds, ρ => if d.sh then bNs is ds (put ρ i d) else .no
  | _, _, _ => .no
def bT (is : List Nat) : B := fun d ρ => match d with
  | .tup _ ds => bNs is ds ρ
  | _ => .no
/-- .. in a comprehension, where it is only looked at -/
def cN (i : Nat) : B := fun d ρ => .ok (put ρ i d)
def cNs : List Nat → List D → Env → Res Env
  | [], [], ρ => .ok ρ
  | i :: is, d :: ds, ρ => cNs is ds (put ρ i d)
  | _, _, _ => .no
def cT (is : List Nat) : B := fun d ρ => match d with
  | .tup _ ds => cNs is ds ρ
  | _ => .no

/-- the items of a comprehension -/
def compL (b : B) (c e : E) (ρ : Env) : List D → Res (List D)
  | [] => .ok []
  | x :: xs => (b x ρ).nox.bind fun ρ1 => (c ρ1).nox.bind fun k => match k with
    | .bl true => (e ρ1).nox.bind fun y => (compL b c e ρ xs).bind fun ys => .ok (y :: ys)
    | .bl false => compL b c e ρ xs
    | _ => .no
/-- the block's own names are not yet bound -/
def clr : List Nat → Env → Env
  | [], ρ => ρ
  | v :: vs, ρ => (clr vs ρ).set v none
def eComp (vs : List Nat) (it : I) (b : B) (c e : E) : E := fun ρ => (it ρ).bind fun xs => (compL b c e (clr vs ρ) xs).bind fun ys => if ys.length ≤ LINE then .ok (.lst true ys) else .no

/-! ### statements -/
inductive Out where
  | no
  | nx (ρ : Env)
  | rt (d : D)
  | bk (ρ : Env)
  | ct (ρ : Env)
  | xc (c : String) (fs : List D) (ρ : Env)
abbrev Sd := Env → Out
def sE {α : Type} (r : Res α) (ρ : Env) (k : α → Out) : Out := match r with
  | .no => .no
  | .ok a => k a
  | .ex c fs => .xc c fs ρ
def sPass : Sd := fun ρ => .nx ρ
def sNo : Sd := fun _ => .no
def sBreak : Sd := fun ρ => .bk ρ
def sCont : Sd := fun ρ => .ct ρ
def sSet (i : Nat) (e : E) : Sd := fun ρ => sE (e ρ) ρ fun d => .nx (put ρ i d)
def sBind (b : B) (e : E) : Sd := fun ρ => sE (e ρ) ρ fun d => sE (b d ρ).nox ρ fun ρ1 => .nx ρ1
def Out.then (o : Out) (b : Sd) : Out := match o with
  | .nx ρ => b ρ
  | o => o
def sSeq (a b : Sd) : Sd := fun ρ => (a ρ).then b
def sIf (c : E) (a b : Sd) : Sd := fun ρ => sE (c ρ) ρ fun x => match x with
  | .bl true => a ρ
  | .bl false => b ρ
  | _ => .no
def sRet (e : E) : Sd := fun ρ => sE (e ρ) ρ fun d => .rt d
def sRetN : Sd := fun _ => .rt .non
/-- return x: what it owns goes along -/
def sRetM (i : Nat) : Sd := fun ρ => sE (get ρ i) ρ fun d => .rt d
def sDrop (e : E) : Sd := fun ρ => sE (e ρ) ρ fun _ => .nx ρ
/-- the name's value is shared from here on -/
def sFrz (i : Nat) (s : Sd) : Sd := fun ρ => sE (get ρ i) ρ fun d => s (put ρ i d.frz)
/-- x.append(e) -/
def sApp (i : Nat) (e : E) : Sd := fun ρ => sE (get ρ i) ρ fun l => match l with
  | .lst true xs => sE (e ρ) ρ fun d => if xs.length < LINE then .nx (put ρ i (.lst true (xs ++ [d]))) else .no
  | _ => .no
/-- x.extend(e) -/
def sExt (i : Nat) (e : E) : Sd := fun ρ => sE (get ρ i) ρ fun l => match l with
  | .lst true xs => sE (e ρ) ρ fun d => match d with
    | .lst _ ys => if xs.length + ys.length ≤ LINE then .nx (put ρ i (.lst true (xs ++ ys))) else .no
    | _ => .no
  | _ => .no
def Out.loop (o : Out) (k : Env → Out) : Out := match o with
  | .nx ρ => k ρ
  | .ct ρ => k ρ
  | .bk ρ => .nx ρ
  | o => o
def forL (b : B) (body : Sd) : List D → Env → Out
  | [], ρ => .nx ρ
  | x :: xs, ρ => (sE (b x ρ).nox ρ body).loop (forL b body xs)
def sFor (it : I) (b : B) (body : Sd) : Sd := fun ρ => sE (it ρ) ρ fun xs => forL b body xs ρ
def whL (c : E) (body : Sd) : Nat → Env → Out
  | 0, _ => .no
  | k + 1, ρ => sE (c ρ) ρ fun x => match x with
    | .bl true => (body ρ).loop (whL c body k)
    | .bl false => .nx ρ
    | _ => .no
def sWhile (fuel : Nat) (c : E) (body : Sd) : Sd := whL c body fuel

/-! ### a def -/
def endF : Out → Res D
  | .rt d => .ok d
  | .nx _ => .ok .non
  | .xc c fs _ => .ex c fs
  | _ => .no
def runF (n : Nat) (body : Sd) (ds : List D) : Res D := endF (body (ds.map some ++ List.replicate (n - ds.length) none))

/-! ### operators -/
def fits64 (i : Int) : Bool := decide (-(2 ^ 64) < i) && decide (i < 2 ^ 64)
def fAdd : D → D → Option D
  | .int i, .int j => some (.int (i + j))
  | .str a, .str b => if a.length + b.length ≤ LINE then some (.str (a ++ b)) else none
  | .lst _ a, .lst _ b => if decide (a.length + b.length ≤ LINE) && shs a && shs b then some (.lst true (a ++ b)) else none
  | _, _ => none
def fSub : D → D → Option D
  | .int i, .int j => some (.int (i - j))
  | _, _ => none
def fMul : D → D → Option D
  | .int i, .int j => if fits64 i || fits64 j then some (.int (i * j)) else none
  | .str s, .int k => if decide (s.length * k.toNat ≤ LINE) && fits62 k then some (.str (List.replicate k.toNat s).flatten) else none
  | .lst _ xs, .int k => if decide (xs.length * k.toNat ≤ LINE) && fits62 k && shs xs then some (.lst true (List.replicate k.toNat xs).flatten) else none
  | _, _ => none
def fDiv : D → D → Option D
  | .int i, .int j => if decide (0 < j) && decide (j < 1073741824) then some (.int (i / j)) else none
  | _, _ => none
def fMod : D → D → Option D
  | .int i, .int j => if decide (0 < j) then some (.int (i % j)) else none
  | _, _ => none
def fNeg : D → Option D
  | .int i => some (.int (-i))
  | _ => none
def fShl : D → D → Option D
  | .int i, .int j => if decide (0 ≤ j) && decide (j ≤ 1000000) && decide (i.natAbs < 2 ^ 64) then some (.int (i * 2 ^ j.toNat)) else none
  | _, _ => none
def fShr : D → D → Option D
  | .int i, .int j => if decide (0 ≤ j) then some (.int (i / 2 ^ j.toNat)) else none
  | _, _ => none
def fBand : D → D → Option D
  | .int i, .int j => if decide (0 ≤ i) && decide (0 ≤ j) then some (.int ((i.toNat &&& j.toNat : Nat) : Int)) else none
  | _, _ => none
def fBor : D → D → Option D
  | .int i, .int j => if decide (0 ≤ i) && decide (0 ≤ j) then some (.int ((i.toNat ||| j.toNat : Nat) : Int)) else none
  | _, _ => none

/-! ### comparisons -/
def fEq (a b : D) : Option D := if a.pl && b.pl && decide (a.dep ≤ 64) && decide (b.dep ≤ 64) then some (.bl (a.eqv b)) else none
def fNe (a b : D) : Option D := if a.pl && b.pl && decide (a.dep ≤ 64) && decide (b.dep ≤ 64) then some (.bl (!a.eqv b)) else none
def fLt : D → D → Option D
  | .int i, .int j => some (.bl (decide (i < j)))
  | _, _ => none
def fLe : D → D → Option D
  | .int i, .int j => some (.bl (decide (i ≤ j)))
  | _, _ => none
def fGt : D → D → Option D
  | .int i, .int j => some (.bl (decide (j < i)))
  | _, _ => none
def fGe : D → D → Option D
  | .int i, .int j => some (.bl (decide (j ≤ i)))
  | _, _ => none
/-- S stands at the head -/
def preT (S l : Tx) : Bool := l.take S.length == S
/-- S stands somewhere in l -/
def subT (S : Tx) : Tx → Bool
  | [] => S == []
  | c :: r => preT S (c :: r) || subT S r
def memD (x : D) : List D → Bool
  | [] => false
  | y :: ys => y.eqv x || memD x ys
def allFl : List D → Bool
  | [] => true
  | x :: xs => x.fl && allFl xs
def fIn : D → D → Option D
  | .str a, .str b => some (.bl (subT a b))
  | x, .lst _ ys => if x.fl && allFl ys then some (.bl (memD x ys)) else none
  | x, .tup _ ys => if x.fl && allFl ys then some (.bl (memD x ys)) else none
  | _, _ => none
def fNin (a b : D) : Option D := match fIn a b with
  | some (.bl k) => some (.bl (!k))
  | _ => none
def D.isNon : D → Bool
  | .non => true
  | _ => false
def fIsN (a : D) : Option D := some (.bl a.isNon)
def fNotN (a : D) : Option D := some (.bl (!a.isNon))
/-- a is True, a is False (k) -/
def fIsB (k : Bool) : D → Option D
  | .bl b => some (.bl (b == k))
  | _ => none
def fNotB (k : Bool) : D → Option D
  | .bl b => some (.bl (b != k))
  | _ => none

/-! ### items, slices -/
def ixD (n : Nat) (i : Int) : Option Nat := if 0 ≤ i then (if i < n then some i.toNat else none) else if -(n : Int) ≤ i then some (i + n).toNat else none
def fIx : D → D → Option D
  | .lst _ xs, .int i => (ixD xs.length i).bind fun j => xs[j]?.bind fun d => if d.sh then some d else none
  | .tup _ xs, .int i => (ixD xs.length i).bind fun j => xs[j]?.bind fun d => if d.sh then some d else none
  | .scr ns, .int i => (ixD ns.length i).bind fun j => ns[j]?.map .int
  | .str s, .int i => if s.length ≤ LINE then (ixD s.length i).bind fun j => s[j]?.map fun c => .str [c] else none
  | _, _ => none
def sIxD (n d : Nat) : Option Int → Nat
  | none => d
  | some v => if v < 0 then (v + (n : Int)).toNat else min v.toNat n
def cutL {α : Type} (xs : List α) (lo hi : Option Int) : List α := (xs.drop (sIxD xs.length 0 lo)).take (sIxD xs.length xs.length hi - sIxD xs.length 0 lo)
def cutD (d : D) (lo hi : Option Int) : Option D := match d with
  | .str s => if s.length ≤ LINE then some (.str (cutL s lo hi)) else none
  | .lst _ xs => if shs xs then some (.lst true (cutL xs lo hi)) else none
  | .scr ns => some (.lst true ((cutL ns lo hi).map .int))
  | _ => none
def eSl (a : E) : E := fun ρ => (a ρ).bind fun x => Res.of (cutD x none none)
def eSlLo (a lo : E) : E := fun ρ => (a ρ).bind fun x => (lo ρ).bind fun l => match l with
  | .int i => Res.of (cutD x (some i) none)
  | _ => .no
def eSlHi (a hi : E) : E := fun ρ => (a ρ).bind fun x => (hi ρ).bind fun h => match h with
  | .int j => Res.of (cutD x none (some j))
  | _ => .no
def eSlLH (a lo hi : E) : E := fun ρ => (a ρ).bind fun x => (lo ρ).bind fun l => match l with
  | .int i => (hi ρ).bind fun h => match h with
    | .int j => Res.of (cutD x (some i) (some j))
    | _ => .no
  | _ => .no

/-! ### built-ins -/
def fLen : D → Option D
  | .str s => if s.length ≤ LINE then some (.int (s.length : Nat)) else none
  | .lst _ xs => some (.int (xs.length : Nat))
  | .tup _ xs => some (.int (xs.length : Nat))
  | .scr ns => some (.int (ns.length : Nat))
  | _ => none
def fInt : D → Option D
  | .int i => some (.int i)
  | .bl b => some (.int (if b then 1 else 0))
  | _ => none
def fAbs : D → Option D
  | .int i => some (.int (if i < 0 then -i else i))
  | _ => none
def fMax2 : D → D → Option D
  | .int i, .int j => some (.int (if j > i then j else i))
  | _, _ => none
def fMin2 : D → D → Option D
  | .int i, .int j => some (.int (if j < i then j else i))
  | _, _ => none
def boolsD : List D → Option (List Bool)
  | [] => some []
  | .bl b :: r => (boolsD r).map (b :: ·)
  | _ => none
def intsD : List D → Option (List Int)
  | [] => some []
  | .int b :: r => (intsD r).map (b :: ·)
  | _ => none
def strsD : List D → Option (List Tx)
  | [] => some []
  | .str b :: r => (strsD r).map (b :: ·)
  | _ => none
def fAll : D → Option D
  | .lst _ xs => (boolsD xs).map fun bs => .bl (bs.all id)
  | _ => none
def fAny : D → Option D
  | .lst _ xs => (boolsD xs).map fun bs => .bl (bs.any id)
  | _ => none
def fSum : D → Option D
  | .lst _ xs => (intsD xs).map fun ns => .int ns.sum
  | _ => none
def fList : D → Option D
  | .lst _ xs => if shs xs then some (.lst true xs) else none
  | .tup _ xs => if shs xs then some (.lst true xs) else none
  | .scr ns => some (.lst true (ns.map .int))
  | _ => none
def fOrd : D → Option D
  | .str [c] => some (.int (c : Nat))
  | _ => none
inductive Ty where
  | str | int | bool | list | tuple | dict
def isT : Ty → D → Bool
  | .str, .str _ => true
  | .int, .int _ => true
  | .int, .bl _ => true
  | .bool, .bl _ => true
  | .list, .lst _ _ => true
  | .list, .scr _ => true
  | .tuple, .tup _ _ => true
  | .dict, .dic _ _ _ => true
  | _, _ => false
def fIsT (t : Ty) : D → Option D
  | .scr _ => none
  | .ins _ _ _ _ => none
  | d => some (.bl (isT t d))

/-! ### texts -/
def joinT (S : Tx) : List Tx → Tx
  | [] => []
  | [p] => p
  | p :: q :: r => p ++ (S ++ joinT S (q :: r))
def fJoin : D → D → Option D
  | .str a, .lst _ xs => (strsD xs).bind fun ys => if (ys.map List.length).sum + ys.length * a.length ≤ LINE then some (.str (joinT a ys)) else none
  | .str a, .tup _ xs => (strsD xs).bind fun ys => if (ys.map List.length).sum + ys.length * a.length ≤ LINE then some (.str (joinT a ys)) else none
  | _, _ => none
/-- l cut at each S; k signs are still to be passed over -/
def splT (S : Tx) : Nat → Tx → Tx → List Tx
  | _, acc, [] => [acc]
  | 0, acc, c :: r => if preT S (c :: r) = true then acc :: splT S (S.length - 1) [] r else splT S 0 (acc ++ [c]) r
  | k + 1, acc, _ :: r => splT S k acc r
def fSplit : D → D → Option D
  | .str a, .str b => if decide (b ≠ []) && b.all (· < 256) && decide (a.length + 2 ≤ LINE) then some (.lst true ((splT b 0 [] a).map .str)) else none
  | _, _ => none
def upC (c : Nat) : Nat := if 97 ≤ c ∧ c ≤ 122 then c - 32 else c
def loC (c : Nat) : Nat := if 65 ≤ c ∧ c ≤ 90 then c + 32 else c
def fUpper : D → Option D
  | .str s => if s.all (· < 128) && decide (s.length ≤ 5592405) then some (.str (s.map upC)) else none
  | _ => none
def fLower : D → Option D
  | .str s => if s.all (· < 128) && decide (s.length ≤ 5592405) then some (.str (s.map loC)) else none
  | _ => none
def fStarts : D → D → Option D
  | .str a, .str b => some (.bl (preT b a))
  | _, _ => none
def fEnds : D → D → Option D
  | .str a, .str b => some (.bl (preT b.reverse a.reverse))
  | _, _ => none
end G


/-! Own layer: more denotations. -/
namespace G
def iRange3v (a b c : E) : I := fun ρ => (a ρ).bind fun x => (b ρ).bind fun y => (c ρ).bind fun z => match x, y, z with
  | .int i, .int j, .int k => if fits62 i && fits62 j && decide (0 < k) && decide (k < 1073741824) then .ok (rangeC i k (turnsC i j k)) else .no
  | _, _, _ => .no
end G


set_option maxHeartbeats 400000


/-! Own layer, part 2: what stands for data in the abstract heap. -/
namespace G
open PySem L2

def tS (s : Tx) : Str := ⟨s.toArray⟩
def kK : Sum Int Tx → Key
  | .inl i => .inl i
  | .inr s => .inr (tS s)
def kOk : Sum Int Tx → Prop
  | .inl _ => True
  | .inr s => ∀ c ∈ s, c < 0x110000

mutual
/-- v stands for d; S: what is shared, H: all; ps: the owned addresses -/
inductive Rp (K : PySem.W.Frag) (S H : Hp) : V → D → List Addr → Prop
  | non : Rp K S H .non .non []
  | bl (b : Bool) : Rp K S H (.bl b) (.bl b) []
  | int (i : Int) : Rp K S H (.int i) (.int i) []
  | str (s : Tx) : (∀ c ∈ s, c < 0x110000) → Rp K S H (.str (tS s)) (.str s) []
  | scr {a : Addr} (ns : List Int) : SqL K S a (ns.map V.int) → Rp K S H (.ref a) (.scr ns) []
  | lstS {a : Addr} {vs : List V} {ds : List D} : S a = some (.lst vs) → RpAll K S H vs ds [] → shs ds = true → Rp K S H (.ref a) (.lst false ds) []
  | lstO {a : Addr} {vs : List V} {ds : List D} {ps : List Addr} : H a = some (.lst vs) → RpAll K S H vs ds ps → Rp K S H (.ref a) (.lst true ds) (a :: ps)
  | tupS {a : Addr} {vs : List V} {ds : List D} : SqT K S a vs → RpAll K S H vs ds [] → shs ds = true → Rp K S H (.ref a) (.tup false ds) []
  | tupO {a : Addr} {vs : List V} {ds : List D} {ps : List Addr} : H a = some (.tup vs) → RpAll K S H vs ds ps → Rp K S H (.ref a) (.tup true ds) (a :: ps)
  | dicS {a : Addr} {kvs : List (Key × V)} {ks : List (Sum Int Tx)} {ds : List D} : S a = some (.dK kvs) → (kvs.map (·.1) = ks.map kK ∧ ∀ k ∈ ks, kOk k) → RpAll K S H (kvs.map (·.2)) ds [] → shs ds = true → Rp K S H (.ref a) (.dic false ks ds) []
  | dicO {a : Addr} {kvs : List (Key × V)} {ks : List (Sum Int Tx)} {ds : List D} {ps : List Addr} : H a = some (.dK kvs) → (kvs.map (·.1) = ks.map kK ∧ ∀ k ∈ ks, kOk k) → RpAll K S H (kvs.map (·.2)) ds ps → Rp K S H (.ref a) (.dic true ks ds) (a :: ps)
inductive RpAll (K : PySem.W.Frag) (S H : Hp) : List V → List D → List Addr → Prop
  | nil : RpAll K S H [] [] []
  | cons {v : V} {vs : List V} {d : D} {ds : List D} {ps qs : List Addr} : Rp K S H v d ps → RpAll K S H vs ds qs → RpAll K S H (v :: vs) (d :: ds) (ps ++ qs)
end

theorem shs_all (xs : List D) : shs xs = xs.all D.sh := by
  induction xs with
  | nil => rfl
  | cons x xs ih => simp [shs, ih]
theorem ows_all (xs : List D) : ows xs = xs.all D.ow := by
  induction xs with
  | nil => rfl
  | cons x xs ih => simp [ows, ih]
theorem frzs_map (xs : List D) : frzs xs = xs.map D.frz := by
  induction xs with
  | nil => rfl
  | cons x xs ih => simp [frzs, ih]

theorem rd_mono {S S' : Hp} {a : Addr} {u : HO} (e : Same S S') (h : Rd S a u) : Rd S' a u := by
  rcases h with h | ⟨o, h⟩
  · exact .inl (e _ _ h)
  · exact .inr ⟨o, e _ _ h⟩
theorem sql_mono {K : PySem.W.Frag} {S S' : Hp} {a : Addr} {xs : List V} (e : Same S S') (h : SqL K S a xs) : SqL K S' a xs := by
  rcases h with h | h
  · exact .inl (rd_mono e h)
  · exact .inr h
theorem sqt_mono {K : PySem.W.Frag} {S S' : Hp} {a : Addr} {xs : List V} (e : Same S S') (h : SqT K S a xs) : SqT K S' a xs := by
  rcases h with h | h
  · exact .inl (rd_mono e h)
  · exact .inr h

section
variable {K : PySem.W.Frag} {S H S' H' : Hp}
mutual
theorem Rp.mono (es : Same S S') (eh : Same H H') : ∀ {v : V} {d : D} {ps : List Addr}, Rp K S H v d ps → Rp K S' H' v d ps
  | _, _, _, .non => .non
  | _, _, _, .bl b => .bl b
  | _, _, _, .int i => .int i
  | _, _, _, .str s h => .str s h
  | _, _, _, .scr ns q => .scr ns (sql_mono es q)
  | _, _, _, .lstS q r s => .lstS (es _ _ q) (RpAll.mono es eh r) s
  | _, _, _, .lstO q r => .lstO (eh _ _ q) (RpAll.mono es eh r)
  | _, _, _, .tupS q r s => .tupS (sqt_mono es q) (RpAll.mono es eh r) s
  | _, _, _, .tupO q r => .tupO (eh _ _ q) (RpAll.mono es eh r)
  | _, _, _, .dicS q k r s => .dicS (es _ _ q) k (RpAll.mono es eh r) s
  | _, _, _, .dicO q k r => .dicO (eh _ _ q) k (RpAll.mono es eh r)
theorem RpAll.mono (es : Same S S') (eh : Same H H') : ∀ {vs : List V} {ds : List D} {ps : List Addr}, RpAll K S H vs ds ps → RpAll K S' H' vs ds ps
  | _, _, _, .nil => .nil
  | _, _, _, .cons r t => .cons (Rp.mono es eh r) (RpAll.mono es eh t)
end
mutual
/-- nothing owned: no address, and the whole heap does not matter -/
theorem Rp.sh : ∀ {v : V} {d : D} {ps : List Addr}, Rp K S H v d ps → d.sh = true → ps = [] ∧ ∀ H', Rp K S H' v d []
  | _, _, _, .non, _ => ⟨rfl, fun _ => .non⟩
  | _, _, _, .bl b, _ => ⟨rfl, fun _ => .bl b⟩
  | _, _, _, .int i, _ => ⟨rfl, fun _ => .int i⟩
  | _, _, _, .str s h, _ => ⟨rfl, fun _ => .str s h⟩
  | _, _, _, .scr ns q, _ => ⟨rfl, fun _ => .scr ns q⟩
  | _, _, _, .lstS q r s, _ => ⟨rfl, fun H' => .lstS q ((RpAll.sh r s).2 H') s⟩
  | _, _, _, .lstO q r, h => by simp [D.sh] at h
  | _, _, _, .tupS q r s, _ => ⟨rfl, fun H' => .tupS q ((RpAll.sh r s).2 H') s⟩
  | _, _, _, .tupO q r, h => by simp [D.sh] at h
  | _, _, _, .dicS q k r s, _ => ⟨rfl, fun H' => .dicS q k ((RpAll.sh r s).2 H') s⟩
  | _, _, _, .dicO q k r, h => by simp [D.sh] at h
theorem RpAll.sh : ∀ {vs : List V} {ds : List D} {ps : List Addr}, RpAll K S H vs ds ps → shs ds = true → ps = [] ∧ ∀ H', RpAll K S H' vs ds []
  | _, _, _, .nil, _ => ⟨rfl, fun _ => .nil⟩
  | _, _, _, .cons r t, h => by
    simp only [shs, Bool.and_eq_true] at h
    obtain ⟨e1, r1⟩ := Rp.sh r h.1
    obtain ⟨e2, r2⟩ := RpAll.sh t h.2
    subst e1 e2
    exact ⟨rfl, fun H' => by simpa using RpAll.cons (r1 H') (r2 H')⟩
end
mutual
/-- all is owned: what is shared does not matter -/
theorem Rp.ow (S' : Hp) : ∀ {v : V} {d : D} {ps : List Addr}, Rp K S H v d ps → d.ow = true → Rp K S' H v d ps
  | _, _, _, .non, _ => .non
  | _, _, _, .bl b, _ => .bl b
  | _, _, _, .int i, _ => .int i
  | _, _, _, .str s h, _ => .str s h
  | _, _, _, .scr ns q, h => by simp [D.ow] at h
  | _, _, _, .lstS q r s, h => by simp [D.ow] at h
  | _, _, _, .lstO q r, h => .lstO q (RpAll.ow S' r (by simpa [D.ow] using h))
  | _, _, _, .tupS q r s, h => by simp [D.ow] at h
  | _, _, _, .tupO q r, h => .tupO q (RpAll.ow S' r (by simpa [D.ow] using h))
  | _, _, _, .dicS q k r s, h => by simp [D.ow] at h
  | _, _, _, .dicO q k r, h => .dicO q k (RpAll.ow S' r (by simpa [D.ow] using h))
theorem RpAll.ow (S' : Hp) : ∀ {vs : List V} {ds : List D} {ps : List Addr}, RpAll K S H vs ds ps → ows ds = true → RpAll K S' H vs ds ps
  | _, _, _, .nil, _ => .nil
  | _, _, _, .cons r t, h => by
    simp only [ows, Bool.and_eq_true] at h
    exact .cons (Rp.ow S' r h.1) (RpAll.ow S' t h.2)
end
mutual
theorem frz_sh : ∀ d : D, d.frz.sh = true
  | .lst _ xs => by simp [D.frz, D.sh, frzs_shs xs]
  | .tup _ xs => by simp [D.frz, D.sh, frzs_shs xs]
  | .dic _ _ vs => by simp [D.frz, D.sh, frzs_shs vs]
  | .ins _ _ _ vs => by simp [D.frz, D.sh, frzs_shs vs]
  | .scr _ => rfl
  | .non => rfl
  | .bl _ => rfl
  | .int _ => rfl
  | .str _ => rfl
theorem frzs_shs : ∀ ds : List D, shs (frzs ds) = true
  | [] => rfl
  | d :: ds => by simp [frzs, shs, frz_sh d, frzs_shs ds]
end
mutual
/-- shared from here on: the owned ones come to what is shared -/
theorem Rp.frz (es : Same S S') : ∀ {v : V} {d : D} {ps : List Addr}, Rp K S H v d ps → (∀ p ∈ ps, ∀ o, H p = some o → S' p = some o) → ∀ H', Rp K S' H' v d.frz []
  | _, _, _, .non, _, _ => .non
  | _, _, _, .bl b, _, _ => .bl b
  | _, _, _, .int i, _, _ => .int i
  | _, _, _, .str s h, _, _ => .str s h
  | _, _, _, .scr ns q, h, H' => .scr ns (sql_mono es q)
  | _, _, _, .lstS q r s, h, H' => .lstS (es _ _ q) (RpAll.frz es r (fun _ z => nomatch z) H') (frzs_shs _)
  | _, _, _, .lstO q r, h, H' => .lstS (h _ (List.mem_cons_self ..) _ q) (RpAll.frz es r (fun p hp => h p (List.mem_cons_of_mem _ hp)) H') (frzs_shs _)
  | _, _, _, .tupS q r s, h, H' => .tupS (sqt_mono es q) (RpAll.frz es r (fun _ z => nomatch z) H') (frzs_shs _)
  | _, _, _, .tupO q r, h, H' => .tupS (.inl (.inl (h _ (List.mem_cons_self ..) _ q))) (RpAll.frz es r (fun p hp => h p (List.mem_cons_of_mem _ hp)) H') (frzs_shs _)
  | _, _, _, .dicS q k r s, h, H' => .dicS (es _ _ q) k (RpAll.frz es r (fun _ z => nomatch z) H') (frzs_shs _)
  | _, _, _, .dicO q k r, h, H' => .dicS (h _ (List.mem_cons_self ..) _ q) k (RpAll.frz es r (fun p hp => h p (List.mem_cons_of_mem _ hp)) H') (frzs_shs _)
theorem RpAll.frz (es : Same S S') : ∀ {vs : List V} {ds : List D} {ps : List Addr}, RpAll K S H vs ds ps → (∀ p ∈ ps, ∀ o, H p = some o → S' p = some o) → ∀ H', RpAll K S' H' vs (frzs ds) []
  | _, _, _, .nil, _, _ => .nil
  | _, _, _, .cons r t, h, H' => by
    have a := Rp.frz es r (fun p hp => h p (List.mem_append_left _ hp)) H'
    have b := RpAll.frz es t (fun p hp => h p (List.mem_append_right _ hp)) H'
    simpa [frzs] using RpAll.cons a b
end
mutual
/-- another address is changed -/
theorem Rp.set {x : Addr} {o : HO} : ∀ {v : V} {d : D} {ps : List Addr}, Rp K S H v d ps → x ∉ ps → Rp K S (upd H x o) v d ps
  | _, _, _, .non, _ => .non
  | _, _, _, .bl b, _ => .bl b
  | _, _, _, .int i, _ => .int i
  | _, _, _, .str s h, _ => .str s h
  | _, _, _, .scr ns q, h => .scr ns q
  | _, _, _, .lstS q r s, h => .lstS q (RpAll.set r (by simp)) s
  | _, _, _, .lstO q r, h => .lstO (by rw [upd_ne (fun z => h (by simp [z]))]; exact q) (RpAll.set r (fun z => h (by simp [z])))
  | _, _, _, .tupS q r s, h => .tupS q (RpAll.set r (by simp)) s
  | _, _, _, .tupO q r, h => .tupO (by rw [upd_ne (fun z => h (by simp [z]))]; exact q) (RpAll.set r (fun z => h (by simp [z])))
  | _, _, _, .dicS q k r s, h => .dicS q k (RpAll.set r (by simp)) s
  | _, _, _, .dicO q k r, h => .dicO (by rw [upd_ne (fun z => h (by simp [z]))]; exact q) k (RpAll.set r (fun z => h (by simp [z])))
theorem RpAll.set {x : Addr} {o : HO} : ∀ {vs : List V} {ds : List D} {ps : List Addr}, RpAll K S H vs ds ps → x ∉ ps → RpAll K S (upd H x o) vs ds ps
  | _, _, _, .nil, _ => .nil
  | _, _, _, .cons r t, h => .cons (Rp.set r (fun z => h (by simp [z]))) (RpAll.set t (fun z => h (by simp [z])))
end
mutual
/-- the owned ones stand in the heap -/
theorem Rp.there : ∀ {v : V} {d : D} {ps : List Addr}, Rp K S H v d ps → ∀ p, p ∈ ps → ∃ o, H p = some o
  | _, _, _, .non, p, hp => by cases hp
  | _, _, _, .bl _, p, hp => by cases hp
  | _, _, _, .int _, p, hp => by cases hp
  | _, _, _, .str _ _, p, hp => by cases hp
  | _, _, _, .scr _ _, p, hp => by cases hp
  | _, _, _, .lstS _ _ _, p, hp => by cases hp
  | _, _, _, .tupS _ _ _, p, hp => by cases hp
  | _, _, _, .dicS _ _ _ _, p, hp => by cases hp
  | _, _, _, .dicO q _ r, p, hp => (List.mem_cons.mp hp).elim (fun e => ⟨_, e ▸ q⟩) (fun hp => RpAll.there r p hp)
  | _, _, _, .lstO q r, p, hp => (List.mem_cons.mp hp).elim (fun e => ⟨_, e ▸ q⟩) (fun hp => RpAll.there r p hp)
  | _, _, _, .tupO q r, p, hp => (List.mem_cons.mp hp).elim (fun e => ⟨_, e ▸ q⟩) (fun hp => RpAll.there r p hp)
theorem RpAll.there : ∀ {vs : List V} {ds : List D} {ps : List Addr}, RpAll K S H vs ds ps → ∀ p, p ∈ ps → ∃ o, H p = some o
  | _, _, _, .nil, p, hp => by cases hp
  | _, _, _, .cons r t, p, hp => (List.mem_append.mp hp).elim (fun hp => Rp.there r p hp) (fun hp => RpAll.there t p hp)
end
theorem RpAll.append : ∀ {vs ws : List V} {ds es : List D} {ps qs : List Addr}, RpAll K S H vs ds ps → RpAll K S H ws es qs → RpAll K S H (vs ++ ws) (ds ++ es) (ps ++ qs)
  | _, _, _, _, _, _, .nil, h => h
  | _, _, _, _, _, _, .cons r t, h => by
    have := RpAll.cons r (RpAll.append t h)
    simpa [List.append_assoc] using this
theorem RpAll.length : ∀ {vs : List V} {ds : List D} {ps : List Addr}, RpAll K S H vs ds ps → vs.length = ds.length
  | _, _, _, .nil => rfl
  | _, _, _, .cons r t => by simp [RpAll.length t]
theorem RpAll.get : ∀ {vs : List V} {ds : List D} {ps : List Addr} {i : Nat} {d : D}, RpAll K S H vs ds ps → ds[i]? = some d → ∃ v qs, vs[i]? = some v ∧ Rp K S H v d qs ∧ ∀ q ∈ qs, q ∈ ps
  | _, _, _, _, _, .nil, h => by simp at h
  | _, _, _, 0, _, .cons (ps := qs) r t, h => by
    simp at h; subst h
    exact ⟨_, qs, rfl, r, fun q hq => List.mem_append_left _ hq⟩
  | _, _, _, i + 1, _, .cons r t, h => by
    obtain ⟨v, qs, h1, h2, h3⟩ := RpAll.get (i := i) t (by simpa using h)
    exact ⟨v, qs, by simpa using h1, h2, fun q hq => List.mem_append_right _ (h3 q hq)⟩
theorem RpAll.cut : ∀ (n : Nat) {vs : List V} {ds : List D} {ps : List Addr}, RpAll K S H vs ds ps → (∃ qs, RpAll K S H (vs.take n) (ds.take n) qs) ∧ ∃ qs, RpAll K S H (vs.drop n) (ds.drop n) qs
  | 0, _, _, _, h => ⟨⟨[], .nil⟩, ⟨_, by simpa using h⟩⟩
  | n + 1, _, _, _, .nil => ⟨⟨[], .nil⟩, ⟨[], .nil⟩⟩
  | n + 1, _, _, _, .cons r t => by
    obtain ⟨⟨qs, h1⟩, ⟨rs, h2⟩⟩ := RpAll.cut n t
    exact ⟨⟨_, .cons r h1⟩, ⟨rs, h2⟩⟩
theorem shs_take (n : Nat) : ∀ {ds : List D}, shs ds = true → shs (ds.take n) = true := fun {ds} h => by
  rw [shs_all] at h ⊢
  rw [List.all_eq_true] at h ⊢
  exact fun x hx => h x (List.mem_of_mem_take hx)
theorem shs_drop (n : Nat) : ∀ {ds : List D}, shs ds = true → shs (ds.drop n) = true := fun {ds} h => by
  rw [shs_all] at h ⊢
  rw [List.all_eq_true] at h ⊢
  exact fun x hx => h x (List.mem_of_mem_drop hx)
theorem shs_append {a b : List D} (h : shs a = true) (h' : shs b = true) : shs (a ++ b) = true := by
  rw [shs_all] at h h' ⊢
  rw [List.all_append, h, h']
  rfl
theorem RpAll.take (n : Nat) {vs : List V} {ds : List D} {ps : List Addr} (h : RpAll K S H vs ds ps) (s : shs ds = true) : RpAll K S H (vs.take n) (ds.take n) [] := by
  obtain ⟨⟨qs, h1⟩, _⟩ := RpAll.cut n h
  exact (RpAll.sh h1 (shs_take n s)).2 H
theorem RpAll.drop (n : Nat) {vs : List V} {ds : List D} {ps : List Addr} (h : RpAll K S H vs ds ps) (s : shs ds = true) : RpAll K S H (vs.drop n) (ds.drop n) [] := by
  obtain ⟨_, ⟨qs, h1⟩⟩ := RpAll.cut n h
  exact (RpAll.sh h1 (shs_drop n s)).2 H
end

/-! ### growing heaps -/
/-- what is new in S' is new in H too -/
def New (S S' H : Hp) : Prop := ∀ a o, S' a = some o → S a = none → H a = none
structure Grow (S H S' H' : Hp) : Prop where
  hh : Same H H'
  ss : Same S S'
  sh : Same S' H'
  nw : New S S' H
theorem Grow.refl {S H : Hp} (h : Same S H) : Grow S H S H := ⟨.refl _, .refl _, h, fun a o h1 h2 => by rw [h1] at h2; cases h2⟩
theorem none_back {H H' : Hp} {a : Addr} (e : Same H H') (h : H' a = none) : H a = none := e.free h
theorem Grow.trans {S H S1 H1 S2 H2 : Hp} (a : Grow S H S1 H1) (b : Grow S1 H1 S2 H2) : Grow S H S2 H2 :=
  ⟨a.hh.trans b.hh, a.ss.trans b.ss, b.sh, fun x o h1 h2 => by
    cases e : S1 x with
    | none => exact none_back a.hh (b.nw x o h1 e)
    | some u => exact a.nw x u e h2⟩
/-- a new object that is not shared -/
theorem Grow.more {S H S' H' H2 : Hp} (a : Grow S H S' H') (e : Same H' H2) : Grow S H S' H2 := ⟨a.hh.trans e, a.ss, a.sh.trans e, a.nw⟩
theorem same_new {H : Hp} {p : Addr} {o : HO} (h : H p = none) : Same H (upd H p o) := fun b x e => by
  rw [upd_ne (ne_of_none e h)]
  exact e
/-- an owned address is changed -/
theorem same_set {H H' : Hp} {p : Addr} {o : HO} (e : Same H H') (h : H p = none) : Same H (upd H' p o) := fun b x z => by
  rw [upd_ne (ne_of_none z h)]
  exact e _ _ z

def Fresh (H S' : Hp) (qs : List Addr) : Prop := qs.Nodup ∧ ∀ q ∈ qs, H q = none ∧ S' q = none
theorem Fresh.nil {H S' : Hp} : Fresh H S' [] := ⟨List.nodup_nil, fun _ z => nomatch z⟩
theorem Fresh.back {H H1 S' : Hp} {qs : List Addr} (e : Same H H1) (f : Fresh H1 S' qs) : Fresh H S' qs := ⟨f.1, fun q hq => ⟨none_back e (f.2 q hq).1, (f.2 q hq).2⟩⟩
/-- later sharings do not touch what stood in the heap owned -/
theorem Fresh.on {H S1 H1 S2 H2 : Hp} {qs : List Addr} (f : Fresh H S1 qs) (g : Grow S1 H1 S2 H2) (th : ∀ q ∈ qs, ∃ o, H1 q = some o) : Fresh H S2 qs := ⟨f.1, fun q hq => ⟨(f.2 q hq).1, by
  cases e : S2 q with
  | none => rfl
  | some u =>
    obtain ⟨o, ho⟩ := th q hq
    have z := g.nw q u e (f.2 q hq).2
    rw [ho] at z; cases z⟩⟩
/-- two fresh lots, one behind the other -/
theorem Fresh.app {H S1 H1 S2 H2 : Hp} {ps qs : List Addr} (f : Fresh H S1 ps) (th : ∀ q ∈ ps, ∃ o, H1 q = some o) (e : Same H H1) (g : Grow S1 H1 S2 H2) (f2 : Fresh H1 S2 qs) : Fresh H S2 (ps ++ qs) := by
  have f1 := f.on g th
  refine ⟨List.nodup_append.mpr ⟨f.1, f2.1, fun a ha b hb z => ?_⟩, fun q hq => ?_⟩
  · obtain ⟨o, ho⟩ := th a ha
    have := (f2.2 b hb).1
    rw [← z, ho] at this; cases this
  · rcases List.mem_append.mp hq with hq | hq
    · exact f1.2 q hq
    · exact (f2.back e).2 q hq

/-! ### names -/
inductive Its (K : PySem.W.Frag) (S H : Hp) : St → Env → List Addr → Prop
  | nil : Its K S H [] [] []
  | skip {x : Option V} {σ : St} {ρ : Env} {ps : List Addr} : Its K S H σ ρ ps → Its K S H (x :: σ) (none :: ρ) ps
  | item {v : V} {d : D} {σ : St} {ρ : Env} {qs ps : List Addr} : Rp K S H v d qs → Its K S H σ ρ ps → Its K S H (some v :: σ) (some d :: ρ) (qs ++ ps)
/-- what may be looked at -/
def Look (K : PySem.W.Frag) (S H : Hp) (σ : St) (ρ : Env) : Prop := σ.length = ρ.length ∧ ∀ (i : Nat) (d : D), ρ[i]? = some (some d) → ∃ v qs, σ[i]? = some (some v) ∧ Rp K S H v d qs
section
variable {K : PySem.W.Frag} {S H S' H' : Hp} {σ : St} {ρ : Env}
theorem Look.mono (g : Grow S H S' H') (l : Look K S H σ ρ) : Look K S' H' σ ρ := ⟨l.1, fun i d h => by
  obtain ⟨v, qs, h1, h2⟩ := l.2 i d h
  exact ⟨v, qs, h1, h2.mono g.ss g.hh⟩⟩
theorem Its.look : ∀ {σ : St} {ρ : Env} {ps : List Addr}, Its K S H σ ρ ps → Look K S H σ ρ
  | _, _, _, .nil => ⟨rfl, fun i d h => by simp at h⟩
  | _, _, _, .skip t => ⟨by simp [(Its.look t).1], fun i d h => by
    cases i with
    | zero => simp at h
    | succ i => simpa using (Its.look t).2 i d (by simpa using h)⟩
  | _, _, _, .item r t => ⟨by simp [(Its.look t).1], fun i d h => by
    cases i with
    | zero =>
      simp at h; subst h
      exact ⟨_, _, rfl, r⟩
    | succ i => simpa using (Its.look t).2 i d (by simpa using h)⟩
theorem Its.mono (es : Same S S') (eh : Same H H') : ∀ {σ : St} {ρ : Env} {ps : List Addr}, Its K S H σ ρ ps → Its K S' H' σ ρ ps
  | _, _, _, .nil => .nil
  | _, _, _, .skip t => .skip (Its.mono es eh t)
  | _, _, _, .item r t => .item (r.mono es eh) (Its.mono es eh t)
theorem Its.there : ∀ {σ : St} {ρ : Env} {ps : List Addr}, Its K S H σ ρ ps → ∀ p, p ∈ ps → ∃ o, H p = some o
  | _, _, _, .nil, p, hp => by cases hp
  | _, _, _, .skip t, p, hp => Its.there t p hp
  | _, _, _, .item r t, p, hp => (List.mem_append.mp hp).elim (fun hp => r.there p hp) (fun hp => Its.there t p hp)
theorem Its.set {x : Addr} {o : HO} : ∀ {σ : St} {ρ : Env} {ps : List Addr}, Its K S H σ ρ ps → x ∉ ps → Its K S (upd H x o) σ ρ ps
  | _, _, _, .nil, _ => .nil
  | _, _, _, .skip t, h => .skip (Its.set t h)
  | _, _, _, .item r t, h => .item (r.set (fun z => h (by simp [z]))) (Its.set t (fun z => h (by simp [z])))
/-- a name is bound: its old addresses go, the new ones come -/
theorem Its.put {v : V} {d : D} {qs : List Addr} (r : Rp K S H v d qs) : ∀ {σ : St} {ρ : Env} {ps : List Addr} (i : Nat), Its K S H σ ρ ps → i < ρ.length → ∃ ps', Its K S H (σ.set i (some v)) (put ρ i d) ps' ∧ (∀ p ∈ ps', p ∈ ps ∨ p ∈ qs) ∧ (ps.Nodup → qs.Nodup → (∀ p ∈ ps, p ∉ qs) → ps'.Nodup)
  | _, _, _, _, .nil, h => absurd h (Nat.not_lt_zero _)
  | _, _, ps, 0, .skip t, _ => ⟨qs ++ ps, .item r t, fun p hp => (List.mem_append.mp hp).elim .inr .inl, fun h1 h2 h3 => List.nodup_append.mpr ⟨h2, h1, fun a ha b hb z => h3 b hb (z ▸ ha)⟩⟩
  | _, _, _, 0, .item (qs := rs) (ps := ps) r' t, _ => ⟨qs ++ ps, .item r t, fun p hp => (List.mem_append.mp hp).elim .inr (fun z => .inl (List.mem_append_right _ z)), fun h1 h2 h3 => List.nodup_append.mpr ⟨h2, (List.nodup_append.mp h1).2.1, fun a ha b hb z => h3 b (List.mem_append_right _ hb) (z ▸ ha)⟩⟩
  | _, _, _, i + 1, .skip t, h => by
    obtain ⟨ps', a, b, c⟩ := Its.put r i t (by simpa using h)
    exact ⟨ps', .skip a, b, c⟩
  | _, _, _, i + 1, .item (qs := rs) (ps := ps) r' t, h => by
    obtain ⟨ps', a, b, c⟩ := Its.put r i t (by simpa using h)
    refine ⟨rs ++ ps', .item r' a, fun p hp => ?_, fun h1 h2 h3 => ?_⟩
    · rcases List.mem_append.mp hp with hp | hp
      · exact .inl (List.mem_append_left _ hp)
      · exact (b p hp).elim (fun z => .inl (List.mem_append_right _ z)) .inr
    · obtain ⟨n1, n2, n3⟩ := List.nodup_append.mp h1
      refine List.nodup_append.mpr ⟨n1, c n2 h2 fun p hp => h3 p (List.mem_append_right _ hp), fun a ha b' hb z => ?_⟩
      subst z
      rcases b a hb with z | z
      · exact n3 a ha a z rfl
      · exact h3 a (List.mem_append_left _ ha) z
/-- a name is taken out -/
theorem Its.pick : ∀ {σ : St} {ρ : Env} {ps : List Addr} (i : Nat) {d : D}, Its K S H σ ρ ps → ρ[i]? = some (some d) → ∃ v qs ps', σ[i]? = some (some v) ∧ Rp K S H v d qs ∧ Its K S H σ (ρ.set i none) ps' ∧ (∀ p, p ∈ ps ↔ p ∈ ps' ∨ p ∈ qs) ∧ (ps.Nodup → ps'.Nodup ∧ qs.Nodup ∧ ∀ p ∈ ps', p ∉ qs)
  | _, _, _, _, _, .nil, h => by simp at h
  | _, _, _, 0, _, .skip t, h => by simp at h
  | _, _, _, 0, _, .item (qs := qs) (ps := ps) r t, h => by
    simp at h; subst h
    exact ⟨_, qs, ps, rfl, r, .skip t, fun p => by simp [or_comm], fun h => by
      obtain ⟨n1, n2, n3⟩ := List.nodup_append.mp h
      exact ⟨n2, n1, fun p hp hq => n3 p hq p hp rfl⟩⟩
  | _, _, _, i + 1, _, .skip t, h => by
    obtain ⟨v, qs, ps', a, b, c, d, e⟩ := Its.pick i t (by simpa using h)
    exact ⟨v, qs, ps', by simpa using a, b, .skip c, d, e⟩
  | _, _, _, i + 1, _, .item (qs := rs) (ps := ps) r t, h => by
    obtain ⟨v, qs, ps', a, b, c, d, e⟩ := Its.pick i t (by simpa using h)
    refine ⟨v, qs, rs ++ ps', by simpa using a, b, .item r c, fun p => ?_, fun hn => ?_⟩
    · simp only [List.mem_append, d p]
      constructor
      · rintro (h | h | h)
        · exact .inl (.inl h)
        · exact .inl (.inr h)
        · exact .inr h
      · rintro ((h | h) | h)
        · exact .inl h
        · exact .inr (.inl h)
        · exact .inr (.inr h)
    · obtain ⟨n1, n2, n3⟩ := List.nodup_append.mp hn
      obtain ⟨e1, e2, e3⟩ := e n2
      refine ⟨List.nodup_append.mpr ⟨n1, e1, fun x hx y hy z => n3 x hx y ((d y).mpr (.inl hy)) z⟩, e2, fun p hp hq => ?_⟩
      rcases List.mem_append.mp hp with hp | hp
      · exact n3 p hp p ((d p).mpr (.inr hq)) rfl
      · exact e3 p hp hq
end
/-- the state of a def's body: S0, H0 the entry -/
structure Rl (K : PySem.W.Frag) (S0 H0 S H : Hp) (σ : St) (ρ : Env) : Prop where
  gr : Grow S0 H0 S H
  it : ∃ ps, Its K S H σ ρ ps ∧ ps.Nodup ∧ ∀ p ∈ ps, H0 p = none ∧ S p = none
section
variable {K : PySem.W.Frag} {S0 H0 S H S' H' : Hp} {σ : St} {ρ : Env}
theorem Rl.look (r : Rl K S0 H0 S H σ ρ) : Look K S H σ ρ := let ⟨_, i, _⟩ := r.it; i.look
/-- evaluating goes on -/
theorem Rl.grow (r : Rl K S0 H0 S H σ ρ) (g : Grow S H S' H') : Rl K S0 H0 S' H' σ ρ := by
  obtain ⟨ps, i, n, f⟩ := r.it
  refine ⟨r.gr.trans g, ps, i.mono g.ss g.hh, n, fun p hp => ⟨(f p hp).1, ?_⟩⟩
  cases e : S' p with
  | none => rfl
  | some u =>
    obtain ⟨o, ho⟩ := i.there p hp
    have z := g.nw p u e (f p hp).2
    rw [ho] at z; cases z
/-- a name is bound to what is new -/
theorem Rl.put (r : Rl K S0 H0 S H σ ρ) (g : Grow S H S' H') {v : V} {d : D} {qs : List Addr} (f : Fresh H S' qs) (rp : Rp K S' H' v d qs) {i : Nat} (hi : i < ρ.length) : Rl K S0 H0 S' H' (σ.set i (some v)) (put ρ i d) := by
  have r' := r.grow g
  obtain ⟨ps, it, n, f0⟩ := r.it
  obtain ⟨ps', a, b, c⟩ := (it.mono g.ss g.hh).put rp i hi
  refine ⟨r'.gr, ps', a, c n f.1 fun p hp hq => ?_, fun p hp => ?_⟩
  · obtain ⟨o, ho⟩ := it.there p hp
    have z := (f.2 p hq).1
    rw [ho] at z; cases z
  · rcases b p hp with h | h
    · refine ⟨(f0 p h).1, ?_⟩
      cases e : S' p with
      | none => rfl
      | some u =>
        obtain ⟨o, ho⟩ := it.there p h
        have z := g.nw p u e (f0 p h).2
        rw [ho] at z; cases z
    · exact ⟨none_back r.gr.hh (f.2 p h).1, (f.2 p h).2⟩
end
end G


set_option maxHeartbeats 1000000
/-! Own layer, part 3: the judgements; expressions. -/
namespace G
open PySem L2

/-- the classes of the text by their names -/
abbrev Cl := String → Addr
/-- a raised error: its class, and its fields where it has some (line, place) -/
def XR (cl : Cl) (H : Hp) (c : String) (fs : List D) (cls : Value) (dd : Option Addr) : Prop :=
  cls = .ref (cl c) ∧ match fs with
  | [] => dd = none
  | [.int l, .int p] => ∃ d, dd = some d ∧ H d = some (.xd [("line", .int l), ("place", .int p)])
  | _ => False

/-- what is wanted behind an expression -/
def PostE (cl : Cl) (K : PySem.W.Frag) (W : WX) (σ : St) (S H : Hp) (r : Res D) (Q : VK) : Prop := match r with
  | .no => False
  | .ok d => ∀ v S' H' qs, Grow S H S' H' → Fresh H S' qs → Rp K S' H' v d qs → Q v H'
  | .ex c fs => ∀ S' H' cls dd, Grow S H S' H' → XR cl H' c fs cls dd → W cls dd σ H'
/-- .. one that is only looked at -/
def PostO (cl : Cl) (K : PySem.W.Frag) (W : WX) (σ : St) (S H : Hp) (r : Res D) (Q : VK) : Prop := match r with
  | .no => False
  | .ok d => ∀ v S' H' qs, Grow S H S' H' → Rp K S' H' v d qs → Q v H'
  | .ex c fs => ∀ S' H' cls dd, Grow S H S' H' → XR cl H' c fs cls dd → W cls dd σ H'
/-- an argument list -/
def PostA (cl : Cl) (K : PySem.W.Frag) (W : WX) (σ : St) (S H : Hp) (r : Res (List D)) (Q : List V → Hp → Prop) : Prop := match r with
  | .no => False
  | .ok ds => ∀ vs S' H' qs, Grow S H S' H' → RpAll K S' H' vs ds qs → Q vs H'
  | .ex c fs => ∀ S' H' cls dd, Grow S H S' H' → XR cl H' c fs cls dd → W cls dd σ H'
/-- .. whose parts are all new -/
def PostAE (cl : Cl) (K : PySem.W.Frag) (W : WX) (σ : St) (S H : Hp) (r : Res (List D)) (Q : List V → Hp → Prop) : Prop := match r with
  | .no => False
  | .ok ds => ∀ vs S' H' qs, Grow S H S' H' → Fresh H S' qs → RpAll K S' H' vs ds qs → Q vs H'
  | .ex c fs => ∀ S' H' cls dd, Grow S H S' H' → XR cl H' c fs cls dd → W cls dd σ H'
def PostT (cl : Cl) (K : PySem.W.Frag) (W : WX) (σ : St) (S H : Hp) (r : Res D) (Q : Bool → Hp → Prop) : Prop := match r with
  | .ok (.bl b) => ∀ S' H', Grow S H S' H' → Q b H'
  | .ex c fs => ∀ S' H' cls dd, Grow S H S' H' → XR cl H' c fs cls dd → W cls dd σ H'
  | _ => False

structure DE (cl : Cl) (X : Cx) (W : WX) (e : Expr) (f : E) : Prop where
  pf : ∃ t : TE, PE X e t ∧ ∀ (σ : St) (ρ : Env) (S H : Hp) (Q : VK), Look X.K S H σ ρ → Same S H → PostE cl X.K W σ S H (f ρ) Q → t σ H Q
structure DO (cl : Cl) (X : Cx) (W : WX) (e : Expr) (f : E) : Prop where
  pf : ∃ t : TE, PE X e t ∧ ∀ (σ : St) (ρ : Env) (S H : Hp) (Q : VK), Look X.K S H σ ρ → Same S H → PostO cl X.K W σ S H (f ρ) Q → t σ H Q
structure DA (cl : Cl) (X : Cx) (W : WX) (es : List Expr) (fs : List E) : Prop where
  pf : ∃ t : TA, PA X es t ∧ ∀ (σ : St) (ρ : Env) (S H : Hp) (Q : List V → Hp → Prop), Look X.K S H σ ρ → Same S H → PostA cl X.K W σ S H (eArgs fs ρ) Q → t σ H Q
structure DAE (cl : Cl) (X : Cx) (W : WX) (es : List Expr) (fs : List E) : Prop where
  pf : ∃ t : TA, PA X es t ∧ ∀ (σ : St) (ρ : Env) (S H : Hp) (Q : List V → Hp → Prop), Look X.K S H σ ρ → Same S H → PostAE cl X.K W σ S H (eArgs fs ρ) Q → t σ H Q
structure DT (cl : Cl) (X : Cx) (W : WX) (e : Expr) (f : E) : Prop where
  pf : ∃ t : TT, PT X e t ∧ ∀ (σ : St) (ρ : Env) (S H : Hp) (Q : Bool → Hp → Prop), Look X.K S H σ ρ → Same S H → PostT cl X.K W σ S H (f ρ) Q → t σ H Q
structure DW (cl : Cl) (X : Cx) (W : WX) (e : Expr) (f : E) : Prop where
  pf : ∃ t : TT, PW X e t ∧ ∀ (σ : St) (ρ : Env) (S H : Hp) (Q : Bool → Hp → Prop), Look X.K S H σ ρ → Same S H → PostT cl X.K W σ S H (f ρ) Q → t σ H Q

section
variable {cl : Cl} {K : PySem.W.Frag} {W : WX} {σ : St} {S H S1 H1 : Hp} {r : Res D} {Q Q' : VK}
theorem PostE.on (g : Grow S H S1 H1) (h : PostE cl K W σ S H r Q) : PostE cl K W σ S1 H1 r Q := by
  cases r with
  | no => exact h
  | ok d => exact fun v S' H' qs g' f rp => h v S' H' qs (g.trans g') (f.back g.hh) rp
  | ex c fs => exact fun S' H' cls dd g' x => h S' H' cls dd (g.trans g') x
theorem PostT.on {Q : Bool → Hp → Prop} (g : Grow S H S1 H1) (h : PostT cl K W σ S H r Q) : PostT cl K W σ S1 H1 r Q := by
  cases r with
  | no => exact h
  | ok d =>
    cases d with
    | bl b => exact fun S' H' g' => h S' H' (g.trans g')
    | _ => exact h
  | ex c fs => exact fun S' H' cls dd g' x => h S' H' cls dd (g.trans g') x
theorem PostO.imp (h : PostO cl K W σ S H r Q) (i : ∀ v H, Q v H → Q' v H) : PostO cl K W σ S H r Q' := by
  cases r with
  | no => exact h
  | ok d => exact fun v S' H' qs g rp => i _ _ (h v S' H' qs g rp)
  | ex c fs => exact h
theorem PostO.toE (h : PostO cl K W σ S H r Q) : PostE cl K W σ S H r Q := by
  cases r with
  | no => exact h
  | ok d => exact fun v S' H' qs g _ rp => h v S' H' qs g rp
  | ex c fs => exact h
/-- an operand, then the rest -/
theorem post_bind {g : D → Res D} (h : PostE cl K W σ S H (r.bind g) Q) :
    PostO cl K W σ S H r (fun v H1 => ∃ d S1 qs, r = .ok d ∧ Grow S H S1 H1 ∧ Rp K S1 H1 v d qs ∧ PostE cl K W σ S1 H1 (g d) Q) := by
  cases r with
  | no => exact h
  | ok d => exact fun v S' H' qs g' rp => ⟨d, S', qs, rfl, g', rp, PostE.on g' h⟩
  | ex c fs => exact h
theorem post_bindE {g : D → Res D} (h : PostE cl K W σ S H (r.bind g) Q) :
    PostE cl K W σ S H r (fun v H1 => ∃ d S1 qs, r = .ok d ∧ Grow S H S1 H1 ∧ Fresh H S1 qs ∧ Rp K S1 H1 v d qs ∧ PostE cl K W σ S1 H1 (g d) Q) := by
  cases r with
  | no => exact h
  | ok d => exact fun v S' H' qs g' f rp => ⟨d, S', qs, rfl, g', f, rp, PostE.on g' h⟩
  | ex c fs => exact h
theorem post_bindT {g : D → Res D} {Q : Bool → Hp → Prop} (h : PostT cl K W σ S H (r.bind g) Q) :
    PostO cl K W σ S H r (fun v H1 => ∃ d S1 qs, r = .ok d ∧ Grow S H S1 H1 ∧ Rp K S1 H1 v d qs ∧ PostT cl K W σ S1 H1 (g d) Q) := by
  cases r with
  | no => exact h
  | ok d => exact fun v S' H' qs g' rp => ⟨d, S', qs, rfl, g', rp, PostT.on g' h⟩
  | ex c fs => exact h
/-- a test, then the rest -/
theorem post_test {g : D → Res D} (hg : ∀ d, (∀ b, d ≠ .bl b) → g d = .no) (h : PostE cl K W σ S H (r.bind g) Q) :
    PostT cl K W σ S H r (fun b H1 => ∃ S1, Grow S H S1 H1 ∧ PostE cl K W σ S1 H1 (g (.bl b)) Q) := by
  cases r with
  | no => exact h
  | ok d =>
    cases d with
    | bl b => exact fun S' H' g' => ⟨S', g', PostE.on g' h⟩
    | _ => 
      have h : PostE cl K W σ S H (g _) Q := h
      rw [hg _ (by intro b z; cases z)] at h
      exact h
  | ex c fs => exact h
theorem post_testT {g : D → Res D} {Q : Bool → Hp → Prop} (hg : ∀ d, (∀ b, d ≠ .bl b) → g d = .no) (h : PostT cl K W σ S H (r.bind g) Q) :
    PostT cl K W σ S H r (fun b H1 => ∃ S1, Grow S H S1 H1 ∧ PostT cl K W σ S1 H1 (g (.bl b)) Q) := by
  cases r with
  | no => exact h
  | ok d =>
    cases d with
    | bl b => exact fun S' H' g' => ⟨S', g', PostT.on g' h⟩
    | _ => 
      have h : PostT cl K W σ S H (g _) Q := h
      rw [hg _ (by intro b z; cases z)] at h
      exact h
  | ex c fs => exact h
end

section
variable {cl : Cl} {X : Cx} {W : WX} {e a b c : Expr} {f g h : E} {pos : Pos}
theorem DE.o (h : DE cl X W e f) : DO cl X W e f := let ⟨t, p, q⟩ := h.pf; ⟨t, p, fun σ ρ S H Q l s z => q σ ρ S H Q l s z.toE⟩

/-! names, constants -/
theorem look_get {K : PySem.W.Frag} {S H : Hp} {σ : St} {ρ : Env} {i : Nat} {d : D} (l : Look K S H σ ρ) (h : get ρ i = .ok d) : ∃ v qs, σ[i]? = some (some v) ∧ Rp K S H v d qs := by
  unfold get at h
  split at h
  · rename_i d' e
    cases h
    exact l.2 i _ e
  · cases h
theorem get_cases (ρ : Env) (i : Nat) : get ρ i = .no ∨ ∃ d, get ρ i = .ok d := by
  unfold get
  split
  · exact .inr ⟨_, rfl⟩
  · exact .inl rfl
theorem do_v (i : Nat) (p : PE X e (tVar i)) : DO cl X W e (eO i) := ⟨tVar i, p, fun σ ρ S H Q l s z => by
  unfold eO at z
  rcases get_cases ρ i with e | ⟨d, e⟩
  · rw [e] at z; exact z.elim
  · rw [e] at z
    obtain ⟨v, qs, h1, h2⟩ := look_get l e
    exact ⟨v, h1, z v S H qs (Grow.refl s) h2⟩⟩
theorem de_v (i : Nat) (p : PE X e (tVar i)) : DE cl X W e (eV i) := ⟨tVar i, p, fun σ ρ S H Q l s z => by
  unfold eV at z
  rcases get_cases ρ i with e | ⟨d, e⟩
  · rw [e] at z; exact z.elim
  · rw [e] at z
    obtain ⟨v, qs, h1, h2⟩ := look_get l e
    refine ⟨v, h1, ?_⟩
    cases k : d.sh with
    | false => simp [Res.bind, k, PostE] at z
    | true =>
      simp only [Res.bind, k, if_true, PostE] at z
      exact z v S H [] (Grow.refl s) Fresh.nil ((h2.sh k).2 H)⟩
theorem de_c {d : D} {v : V} (p : PE X e (tC v)) (r : ∀ S H, Rp X.K S H v d []) : DE cl X W e (eC d) := ⟨tC v, p, fun σ ρ S H Q l s z => z v S H [] (Grow.refl s) Fresh.nil (r S H)⟩
theorem de_int {i j} : DE cl X W (.Constant (.int i) j pos) (eC (.int i)) := de_c pe_int fun _ _ => .int i
theorem de_bl {b j} : DE cl X W (.Constant (.bool b) j pos) (eC (.bl b)) := de_c pe_bl fun _ _ => .bl b
theorem de_non {j} : DE cl X W (.Constant .none j pos) (eC .non) := de_c pe_non fun _ _ => .non
theorem de_str {x : Str} {j} (s : Tx) (h : x = tS s) (k : s.all (fun c => decide (c < 0x110000)) = true) : DE cl X W (.Constant (.str x) j pos) (eC (.str s)) := by
  subst h
  exact de_c pe_str fun _ _ => .str s (by simpa using k)
theorem de_frz (h : DE cl X W e f) : DE cl X W e (eFrz f) := by
  obtain ⟨t, p, q⟩ := h.pf
  refine ⟨t, p, fun σ ρ S H Q l s z => q σ ρ S H Q l s ?_⟩
  unfold eFrz at z
  cases k : f ρ with
  | no => rw [k] at z; exact z
  | ex c fs => rw [k] at z; exact z
  | ok d =>
    rw [k] at z
    intro v S' H' qs g fr rp
    refine z v (fun a => if a ∈ qs then H' a else S' a) H' [] ⟨g.hh, ?_, ?_, ?_⟩ Fresh.nil (rp.frz ?_ ?_ H')
    · intro b o hb
      have hb' := g.ss b o hb
      have : b ∉ qs := fun z => by rw [(fr.2 b z).2] at hb'; cases hb'
      simp only [this, if_false]
      exact hb'
    · intro b o hb
      by_cases hq : b ∈ qs
      · simpa only [hq, if_true] using hb
      · simp only [hq, if_false] at hb
        exact g.sh b o hb
    · intro b o hb hn
      by_cases hq : b ∈ qs
      · exact (fr.2 b hq).1
      · simp only [hq, if_false] at hb
        exact g.nw b o hb hn
    · intro b o hb
      have : b ∉ qs := fun z => by rw [(fr.2 b z).2] at hb; cases hb
      simp only [this, if_false]
      exact hb
    · intro p hp o ho
      simp only [hp, if_true]
      exact ho

/-! operators -/
/-- a step on values keeps f -/
def Op1 (X : Cx) (r : V → Hp → VK → Prop) (f : D → Option D) : Prop := ∀ (S H : Hp) (x : V) (dx d : D) (ps : List Addr) (Q : VK), Same S H → Rp X.K S H x dx ps → f dx = some d →
  (∀ v S' H' rs, Grow S H S' H' → Fresh H S' rs → Rp X.K S' H' v d rs → Q v H') → r x H Q
def Op2 (X : Cx) (r : R2) (f : D → D → Option D) : Prop := ∀ (S H : Hp) (x y : V) (dx dy d : D) (ps qs : List Addr) (Q : VK), Same S H → Rp X.K S H x dx ps → Rp X.K S H y dy qs → f dx dy = some d →
  (∀ v S' H' rs, Grow S H S' H' → Fresh H S' rs → Rp X.K S' H' v d rs → Q v H') → r x y H Q
theorem de_1 {r : V → Hp → VK → Prop} {F : D → Option D} (p : ∀ ta, PE X a ta → PE X e (tUn r ta)) (o : Op1 X r F) (ha : DO cl X W a f) : DE cl X W e (e1 F f) := by
  obtain ⟨ta, pa, qa⟩ := ha.pf
  refine ⟨_, p ta pa, fun σ ρ S H Q l s z => ?_⟩
  refine qa σ ρ S H _ l s ((post_bind z).imp ?_)
  rintro v H1 ⟨d, S1, qs, e, g, rp, z1⟩
  cases k : F d with
  | none => rw [k] at z1; exact z1.elim
  | some d' =>
    rw [k] at z1
    exact o S1 H1 v d d' qs Q g.sh rp k z1
theorem de_2 {r : R2} {F : D → D → Option D} (p : ∀ ta tb, PE X a ta → PE X b tb → PE X e (tOp r ta tb)) (o : Op2 X r F) (ha : DO cl X W a f) (hb : DO cl X W b g) : DE cl X W e (e2 F f g) := by
  obtain ⟨ta, pa, qa⟩ := ha.pf
  obtain ⟨tb, pb, qb⟩ := hb.pf
  refine ⟨_, p ta tb pa pb, fun σ ρ S H Q l s z => ?_⟩
  refine qa σ ρ S H _ l s ((post_bind z).imp ?_)
  rintro v H1 ⟨d, S1, qs, e, g1, rp, z1⟩
  refine qb σ ρ S1 H1 _ (l.mono g1) g1.sh ((post_bind z1).imp ?_)
  rintro u H2 ⟨d2, S2, rs, e2, g2, rp2, z2⟩
  cases k : F d d2 with
  | none => rw [k] at z2; exact z2.elim
  | some d' =>
    rw [k] at z2
    exact o S2 H2 v u d d2 d' qs rs Q g2.sh (rp.mono g2.ss g2.hh) rp2 k z2
theorem de_bin {op : Operator} {r : R2} {F : D → D → Option D} (ho : OpR X (binaryOp op) r) (o : Op2 X r F) (ha : DO cl X W a f) (hb : DO cl X W b g) : DE cl X W (.BinOp a op b pos) (e2 F f g) := de_2 (fun _ _ => pe_op ho) o ha hb
theorem de_cmp {op : CmpOp} {r : R2} {F : D → D → Option D} (ho : OpR X (compareOp op) r) (o : Op2 X r F) (hm : behindInMarks op b = false) (ha : DO cl X W a f) (hb : DO cl X W b g) : DE cl X W (.Compare a [op] [b] pos) (e2 F f g) := de_2 (fun _ _ h1 h2 => pe_cmpR ho h1 h2 hm) o ha hb
theorem de_un {op : UnaryOp} {r : V → Hp → VK → Prop} {F : D → Option D} (ho : UnR X (unaryOp op) r) (o : Op1 X r F) (ha : DO cl X W a f) : DE cl X W (.UnaryOp op a pos) (e1 F f) := de_1 (fun _ => pe_un ho) o ha

/-! and, or, not, if as values -/
theorem de_one {op} (h : DE cl X W a f) : DE cl X W (.BoolOp op [a] pos) f := let ⟨t, p, q⟩ := h.pf; ⟨t, pe_one p, q⟩
theorem de_and {rest : List Expr} (ha : DE cl X W a f) (hb : DE cl X W (.BoolOp .And (b :: rest) pos) g) : DE cl X W (.BoolOp .And (a :: b :: rest) pos) (eAnd f g) := by
  obtain ⟨ta, pa, qa⟩ := ha.pf
  obtain ⟨tb, pb, qb⟩ := hb.pf
  refine ⟨_, pe_and pa pb, fun σ ρ S H Q l s z => ?_⟩
  refine qa σ ρ S H _ l s (((post_bind z).imp ?_).toE)
  rintro v H1 ⟨d, S1, qs, e, g1, rp, z1⟩
  cases d with
  | bl k =>
    cases rp
    refine ⟨k, rfl, ?_⟩
    cases k with
    | true => exact qb σ ρ S1 H1 Q (l.mono g1) g1.sh z1
    | false => exact z1 _ S1 H1 [] (Grow.refl g1.sh) Fresh.nil (.bl false)
  | _ => exact z1.elim
theorem de_or {rest : List Expr} (ha : DE cl X W a f) (hb : DE cl X W (.BoolOp .Or (b :: rest) pos) g) : DE cl X W (.BoolOp .Or (a :: b :: rest) pos) (eOr f g) := by
  obtain ⟨ta, pa, qa⟩ := ha.pf
  obtain ⟨tb, pb, qb⟩ := hb.pf
  refine ⟨_, pe_or pa pb, fun σ ρ S H Q l s z => ?_⟩
  refine qa σ ρ S H _ l s (((post_bind z).imp ?_).toE)
  rintro v H1 ⟨d, S1, qs, e, g1, rp, z1⟩
  cases d with
  | bl k =>
    cases rp
    refine ⟨k, rfl, ?_⟩
    cases k with
    | false => exact qb σ ρ S1 H1 Q (l.mono g1) g1.sh z1
    | true => exact z1 _ S1 H1 [] (Grow.refl g1.sh) Fresh.nil (.bl true)
  | _ => exact z1.elim
theorem de_not (ha : DE cl X W a f) : DE cl X W (.UnaryOp .Not a pos) (eNot f) := by
  obtain ⟨ta, pa, qa⟩ := ha.pf
  refine ⟨_, pe_not pa, fun σ ρ S H Q l s z => ?_⟩
  refine qa σ ρ S H _ l s (((post_bind z).imp ?_).toE)
  rintro v H1 ⟨d, S1, qs, e, g1, rp, z1⟩
  cases d with
  | bl k =>
    cases rp
    exact ⟨k, rfl, z1 _ S1 H1 [] (Grow.refl g1.sh) Fresh.nil (.bl _)⟩
  | _ => exact z1.elim

/-! tests -/
theorem dt_val (h : DE cl X W e f) (he : ∀ whole, isTrue e X.env whole = (do let v ← whole; standAt e.pos; holding [v] (truthy v)) := by intro _; rfl) : DT cl X W e f := by
  obtain ⟨t, p, q⟩ := h.pf
  refine ⟨_, pt_val p he, fun σ ρ S H Q l s z => q σ ρ S H _ l s ?_⟩
  cases k : f ρ with
  | no => rw [k] at z; exact z
  | ex c fs => rw [k] at z; exact z
  | ok d =>
    rw [k] at z
    cases d with
    | bl b => exact fun v S' H' qs g _ rp => by cases rp; exact ⟨b, rfl, z S' H' g⟩
    | _ => exact z.elim
theorem dt_cmp {op : CmpOp} {r : R2} {F : D → D → Option D} (ho : OpR X (compareOp op) r) (o : Op2 X r F) (hm : behindInMarks op b = false) (ha : DO cl X W a f) (hb : DO cl X W b g) : DT cl X W (.Compare a [op] [b] pos) (e2 F f g) := by
  obtain ⟨ta, pa, qa⟩ := ha.pf
  obtain ⟨tb, pb, qb⟩ := hb.pf
  refine ⟨_, pt_cmpR ho pa pb hm, fun σ ρ S H Q l s z => ?_⟩
  refine qa σ ρ S H _ l s ((post_bindT z).imp ?_)
  rintro v H1 ⟨d, S1, qs, e, g1, rp, z1⟩
  refine qb σ ρ S1 H1 _ (l.mono g1) g1.sh ((post_bindT z1).imp ?_)
  rintro u H2 ⟨d2, S2, rs, e2, g2, rp2, z2⟩
  cases k : F d d2 with
  | none => rw [k] at z2; exact z2.elim
  | some d' =>
    rw [k] at z2
    refine o S2 H2 v u d d2 d' qs rs _ g2.sh (rp.mono g2.ss g2.hh) rp2 k ?_
    cases d' with
    | bl b => exact fun v S' H' qs g _ rp => by cases rp; exact ⟨b, rfl, z2 S' H' g⟩
    | _ => exact z2.elim
theorem DW.t (h : DW cl X W e f) : DT cl X W e f := let ⟨t, p, q⟩ := h.pf; ⟨t, p.pt, q⟩
theorem dw_and1 (h : DT cl X W a f) : DW cl X W (.BoolOp .And [a] pos) f := let ⟨t, p, q⟩ := h.pf; ⟨t, pw_and1 p, q⟩
theorem dw_or1 (h : DT cl X W a f) : DW cl X W (.BoolOp .Or [a] pos) f := let ⟨t, p, q⟩ := h.pf; ⟨t, pw_or1 p, q⟩
theorem dw_and {rest : List Expr} (ha : DT cl X W a f) (hb : DW cl X W (.BoolOp .And (b :: rest) pos) g) : DW cl X W (.BoolOp .And (a :: b :: rest) pos) (eAnd f g) := by
  obtain ⟨ta, pa, qa⟩ := ha.pf
  obtain ⟨tb, pb, qb⟩ := hb.pf
  refine ⟨_, pw_and pa pb, fun σ ρ S H Q l s z => ?_⟩
  have z' := post_testT (by intro d hd; cases d <;> first | rfl | exact absurd rfl (hd _)) z
  refine qa σ ρ S H _ l s ?_
  cases k : f ρ with
  | no => rw [k] at z'; exact z'
  | ex c fs => rw [k] at z'; exact z'
  | ok d =>
    rw [k] at z'
    cases d with
    | bl b =>
      intro S' H' g'
      obtain ⟨S1, g1, z1⟩ := z' S' H' g'
      cases b with
      | true => exact qb σ ρ S1 H' Q (l.mono g1) g1.sh z1
      | false => exact z1 S1 H' (Grow.refl g1.sh)
    | _ => exact z'.elim
theorem dw_or {rest : List Expr} (ha : DT cl X W a f) (hb : DW cl X W (.BoolOp .Or (b :: rest) pos) g) : DW cl X W (.BoolOp .Or (a :: b :: rest) pos) (eOr f g) := by
  obtain ⟨ta, pa, qa⟩ := ha.pf
  obtain ⟨tb, pb, qb⟩ := hb.pf
  refine ⟨_, pw_or pa pb, fun σ ρ S H Q l s z => ?_⟩
  have z' := post_testT (by intro d hd; cases d <;> first | rfl | exact absurd rfl (hd _)) z
  refine qa σ ρ S H _ l s ?_
  cases k : f ρ with
  | no => rw [k] at z'; exact z'
  | ex c fs => rw [k] at z'; exact z'
  | ok d =>
    rw [k] at z'
    cases d with
    | bl b =>
      intro S' H' g'
      obtain ⟨S1, g1, z1⟩ := z' S' H' g'
      cases b with
      | false => exact qb σ ρ S1 H' Q (l.mono g1) g1.sh z1
      | true => exact z1 S1 H' (Grow.refl g1.sh)
    | _ => exact z'.elim
theorem dt_not (ha : DT cl X W a f) : DT cl X W (.UnaryOp .Not a pos) (eNot f) := by
  obtain ⟨ta, pa, qa⟩ := ha.pf
  refine ⟨_, pt_not pa, fun σ ρ S H Q l s z => ?_⟩
  have z' := post_testT (by intro d hd; cases d <;> first | rfl | exact absurd rfl (hd _)) z
  refine qa σ ρ S H _ l s ?_
  cases k : f ρ with
  | no => rw [k] at z'; exact z'
  | ex c fs => rw [k] at z'; exact z'
  | ok d =>
    rw [k] at z'
    cases d with
    | bl b =>
      intro S' H' g'
      obtain ⟨S1, g1, z1⟩ := z' S' H' g'
      exact z1 S1 H' (Grow.refl g1.sh)
    | _ => exact z'.elim
theorem de_if (hc : DT cl X W c h) (ha : DE cl X W a f) (hb : DE cl X W b g) : DE cl X W (.IfExp c a b pos) (eIf h f g) := by
  obtain ⟨tc, pc, qc⟩ := hc.pf
  obtain ⟨ta, pa, qa⟩ := ha.pf
  obtain ⟨tb, pb, qb⟩ := hb.pf
  refine ⟨_, pe_ifExp pc pa pb, fun σ ρ S H Q l s z => ?_⟩
  have z' := post_test (by intro d hd; cases d <;> first | rfl | exact absurd rfl (hd _)) z
  refine qc σ ρ S H _ l s ?_
  cases k : h ρ with
  | no => rw [k] at z'; exact z'
  | ex c fs => rw [k] at z'; exact z'
  | ok d =>
    rw [k] at z'
    cases d with
    | bl b =>
      intro S' H' g'
      obtain ⟨S1, g1, z1⟩ := z' S' H' g'
      cases b with
      | true => exact qa σ ρ S1 H' Q (l.mono g1) g1.sh z1
      | false => exact qb σ ρ S1 H' Q (l.mono g1) g1.sh z1
    | _ => exact z'.elim
end
end G


set_option maxHeartbeats 1000000
/-! Own layer, part 4: operators on values. -/
namespace G
open PySem L2

theorem line_eq : (sizeLine : Nat) = LINE := by decide

section
variable {K : PySem.W.Frag} {S H : Hp} {v : V} {ds : List D} {ps : List Addr} {o : Bool}
/-- a list's object -/
theorem Rp.lst (h : Rp K S H v (.lst o ds) ps) (s : Same S H) : ∃ a vs qs, v = .ref a ∧ H a = some (.lst vs) ∧ RpAll K S H vs ds qs := by
  cases h with
  | lstS q r z => exact ⟨_, _, _, rfl, s _ _ q, r⟩
  | lstO q r => exact ⟨_, _, _, rfl, q, r⟩
theorem Rp.tup (h : Rp K S H v (.tup o ds) ps) (s : Same S H) : ∃ a vs qs, v = .ref a ∧ SqT K H a vs ∧ RpAll K S H vs ds qs := by
  cases h with
  | tupS q r z => exact ⟨_, _, _, rfl, sqt_mono s q, r⟩
  | tupO q r => exact ⟨_, _, _, rfl, .inl (.inl q), r⟩
/-- a new list, a new tuple, of shared things -/
theorem newL {vs : List V} {Q : VK} {p : Addr} (s : Same S H) (ra : RpAll K S H vs ds ps) (sh : shs ds = true) (hp : H p = none)
    (k : ∀ v S' H' rs, Grow S H S' H' → Fresh H S' rs → Rp K S' H' v (.lst true ds) rs → Q v H') : Q (.ref p) (upd H p (.lst vs)) := by
  refine k (.ref p) S _ [p] ((Grow.refl s).more (same_new hp)) ⟨by simp, fun q hq => ?_⟩ (.lstO upd_same ((ra.sh sh).2 _))
  have e : q = p := by simpa using hq
  subst e
  exact ⟨hp, none_back s hp⟩
theorem newT {vs : List V} {Q : VK} {p : Addr} (s : Same S H) (ra : RpAll K S H vs ds ps) (sh : shs ds = true) (hp : H p = none)
    (k : ∀ v S' H' rs, Grow S H S' H' → Fresh H S' rs → Rp K S' H' v (.tup true ds) rs → Q v H') : Q (.ref p) (upd H p (.tup vs)) := by
  refine k (.ref p) S _ [p] ((Grow.refl s).more (same_new hp)) ⟨by simp, fun q hq => ?_⟩ (.tupO upd_same ((ra.sh sh).2 _))
  have e : q = p := by simpa using hq
  subst e
  exact ⟨hp, none_back s hp⟩
/-- a plain value -/
theorem newV {Q : VK} {d : D} (s : Same S H) (r : Rp K S H v d []) (k : ∀ v S' H' rs, Grow S H S' H' → Fresh H S' rs → Rp K S' H' v d rs → Q v H') : Q v H := k v S H [] (Grow.refl s) Fresh.nil r
end

theorem tS_len (s : Tx) : (tS s).length = s.length := by simp [tS, Str.length]
theorem tS_app (a b : Tx) : tS a ++ tS b = tS (a ++ b) := TL.ext_tl (by rw [TL.tl_append]; simp [tS])
theorem tS_inj {a b : Tx} (h : tS a = tS b) : a = b := by
  have := congrArg (fun x : Str => x.cps.toList) h
  simpa [tS] using this

section
variable {X : Cx}
def rAddD : R2 := fun x y H Q => rI0 (fun i j => .int (i + j)) x y H Q ∨ ((∃ i j, x = .str i ∧ y = .str j ∧ i.length + j.length ≤ sizeLine ∧ Q (.str (i ++ j)) H) ∨ rCat x y H Q)
theorem op_addD : OpR X (binaryOp .Add) rAddD := op_add.or (op_add_str.or op_cat)
theorem o_add : Op2 X rAddD fAdd := by
  intro S H x y dx dy d ps qs Q s rx ry e k
  unfold fAdd at e
  split at e
  · cases rx; cases ry; cases e
    exact .inl ⟨_, _, rfl, rfl, newV s (.int _) k⟩
  · split at e
    · rename_i a b h
      cases rx with | str _ ha => cases ry with | str _ hb =>
      cases e
      refine .inr (.inl ⟨_, _, rfl, rfl, by rw [tS_len, tS_len, line_eq]; exact h, ?_⟩)
      rw [tS_app]
      exact newV s (.str _ fun c hc => (List.mem_append.mp hc).elim (ha c) (hb c)) k
    · cases e
  · split at e
    · rename_i h
      cases e
      simp only [Bool.and_eq_true, decide_eq_true_eq] at h
      obtain ⟨l1, v1, q1, rfl, h1, r1⟩ := rx.lst s
      obtain ⟨l2, v2, q2, rfl, h2, r2⟩ := ry.lst s
      refine .inr (.inr ⟨l1, l2, v1, v2, rfl, rfl, h1, h2, ?_, fun p hp => ?_⟩)
      · rw [r1.length, r2.length, line_eq]; exact h.1.1
      · exact newL s (r1.append r2) (shs_append h.1.2 h.2) hp k
    · cases e
  · cases e
/-- two ints -/
theorem o_I0 {g : Int → Int → V} {F : D → D → Option D} (hF : ∀ a b d, F a b = some d → ∃ i j, a = .int i ∧ b = .int j ∧ ∀ S H, Rp X.K S H (g i j) d []) : Op2 X (rI0 g) F := by
  intro S H x y dx dy d ps qs Q s rx ry e k
  obtain ⟨i, j, rfl, rfl, h⟩ := hF _ _ _ e
  cases rx; cases ry
  exact ⟨i, j, rfl, rfl, newV s (h S H) k⟩
theorem o_I {C : Int → Int → Prop} {g : Int → Int → V} {F : D → D → Option D} (hF : ∀ a b d, F a b = some d → ∃ i j, a = .int i ∧ b = .int j ∧ C i j ∧ ∀ S H, Rp X.K S H (g i j) d []) : Op2 X (rI C g) F := by
  intro S H x y dx dy d ps qs Q s rx ry e k
  obtain ⟨i, j, rfl, rfl, c, h⟩ := hF _ _ _ e
  cases rx; cases ry
  exact ⟨i, j, rfl, rfl, c, newV s (h S H) k⟩
theorem o_sub : Op2 X (rI0 fun i j => .int (i - j)) fSub := o_I0 fun a b d e => by
  unfold fSub at e
  split at e
  · cases e; exact ⟨_, _, rfl, rfl, fun _ _ => .int _⟩
  · cases e
theorem o_div : Op2 X (rI CDiv fun i j => .int (i / j)) fDiv := o_I fun a b d e => by
  unfold fDiv at e
  split at e
  · split at e
    · rename_i h
      simp only [Bool.and_eq_true, decide_eq_true_eq] at h
      cases e; exact ⟨_, _, rfl, rfl, h, fun _ _ => .int _⟩
    · cases e
  · cases e
theorem o_mod : Op2 X (rI (fun _ j => 0 < j) fun i j => .int (i % j)) fMod := o_I fun a b d e => by
  unfold fMod at e
  split at e
  · split at e
    · rename_i h
      simp only [decide_eq_true_eq] at h
      cases e; exact ⟨_, _, rfl, rfl, h, fun _ _ => .int _⟩
    · cases e
  · cases e
theorem o_shl : Op2 X (rI CPow fun i j => .int (i * 2 ^ j.toNat)) fShl := o_I fun a b d e => by
  unfold fShl at e
  split at e
  · split at e
    · rename_i h
      simp only [Bool.and_eq_true, decide_eq_true_eq] at h
      cases e; exact ⟨_, _, rfl, rfl, ⟨h.1.1, h.1.2, h.2⟩, fun _ _ => .int _⟩
    · cases e
  · cases e
theorem o_shr : Op2 X (rI (fun _ j => 0 ≤ j) fun i j => .int (i / 2 ^ j.toNat)) fShr := o_I fun a b d e => by
  unfold fShr at e
  split at e
  · split at e
    · rename_i h
      simp only [decide_eq_true_eq] at h
      cases e; exact ⟨_, _, rfl, rfl, h, fun _ _ => .int _⟩
    · cases e
  · cases e
theorem o_band : Op2 X (rI0 fun i j => .int (Builtin.bitAnd i j)) fBand := o_I0 fun a b d e => by
  unfold fBand at e
  split at e
  · split at e
    · rename_i i j h
      simp only [Bool.and_eq_true, decide_eq_true_eq] at h
      cases e
      refine ⟨_, _, rfl, rfl, fun _ _ => ?_⟩
      rw [PyProof.Rows.bitAnd_pp h.1 h.2]
      exact .int _
    · cases e
  · cases e
theorem o_bor : Op2 X (rI0 fun i j => .int (Builtin.bitOr i j)) fBor := o_I0 fun a b d e => by
  unfold fBor at e
  split at e
  · split at e
    · rename_i i j h
      simp only [Bool.and_eq_true, decide_eq_true_eq] at h
      cases e
      refine ⟨_, _, rfl, rfl, fun _ _ => ?_⟩
      rw [Bits.bitOr_pp h.1 h.2]
      exact .int _
    · cases e
  · cases e
theorem o_lt : Op2 X (rI0 fun i j => .bl (decide (i < j))) fLt := o_I0 fun a b d e => by
  unfold fLt at e
  split at e
  · cases e; exact ⟨_, _, rfl, rfl, fun _ _ => .bl _⟩
  · cases e
theorem o_le : Op2 X (rI0 fun i j => .bl (decide (i ≤ j))) fLe := o_I0 fun a b d e => by
  unfold fLe at e
  split at e
  · cases e; exact ⟨_, _, rfl, rfl, fun _ _ => .bl _⟩
  · cases e
theorem o_gt : Op2 X (rI0 fun i j => .bl (decide (j < i))) fGt := o_I0 fun a b d e => by
  unfold fGt at e
  split at e
  · cases e; exact ⟨_, _, rfl, rfl, fun _ _ => .bl _⟩
  · cases e
theorem o_ge : Op2 X (rI0 fun i j => .bl (decide (j ≤ i))) fGe := o_I0 fun a b d e => by
  unfold fGe at e
  split at e
  · cases e; exact ⟨_, _, rfl, rfl, fun _ _ => .bl _⟩
  · cases e
theorem o_neg : Op1 X (rU fun i => .int (-i)) fNeg := by
  intro S H x dx d ps Q s rx e k
  unfold fNeg at e
  split at e
  · cases rx; cases e
    exact ⟨_, rfl, newV s (.int _) k⟩
  · cases e
/-! times -/
def rRepS : R2 := fun x y H Q => ∃ z k, x = .str z ∧ y = .int k ∧ -(2 ^ 63) ≤ k ∧ k < 2 ^ 63 ∧ z.length * k.toNat ≤ sizeLine ∧ Q (.str ⟨(List.replicate k.toNat z.cps.toList).flatten.toArray⟩) H
end
end G


set_option maxHeartbeats 1000000
namespace G
open PySem L2
section
variable {X : Cx}
theorem fold_app (k : Nat) (a : Array Nat) : ∀ acc : Array Nat, (List.replicate k a).foldl (· ++ ·) acc = ⟨acc.toList ++ (List.replicate k a.toList).flatten⟩ := by
  induction k with
  | zero => intro acc; simp
  | succ k ih =>
    intro acc
    rw [List.replicate_succ, List.foldl_cons, ih, List.replicate_succ, List.flatten_cons, Array.toList_append, List.append_assoc]
theorem op_repS : OpR X (binaryOp .Mult) rRepS := by
  intro pins s σ H x y v u Q I rx ry h
  obtain ⟨z, k, rfl, rfl, h1, h2, hz, q⟩ := h
  obtain ⟨t, rfl⟩ := rx
  obtain ⟨t', rfl⟩ := ry
  have hk : ¬ k < 1 → (z.length * k.toNat : Nat) ≤ sizeLine := fun _ => hz
  refine PySem.P.mul_str ?_ ?_ ?_ ?_
  · rw [decide_eq_false (by omega), decide_eq_false (by omega)]; rfl
  · intro h1 h3 h4
    have e : ((z.length * k.toNat : Nat) : Int) ≤ 16777216 := by
      have := hz; rw [sizeLine_eq] at this; omega
    have hk0 : (0 : Int) < k := by omega
    have h5 : ((z.length : Nat) : Int) * k ≤ 16777216 := by
      rw [Int.natCast_mul, Int.toNat_of_nonneg (by omega)] at e
      exact e
    have h6 : ((z.length : Nat) : Int) ≤ (2 ^ 63 - 1) / k := (Int.le_ediv_iff_mul_le hk0).mpr (Int.le_trans h5 (by decide))
    omega
  · intro h1 h3
    unfold Builtin.Str.tooLong
    exact decide_eq_false (Nat.not_lt.mpr hz)
  · by_cases h3 : k < 1
    · rw [if_pos h3]
      refine ⟨by decide, ⟨.str Str.empty, H, I.tok _, ⟨_, rfl⟩, ?_⟩⟩
      have e : k.toNat = 0 := by omega
      rw [e] at q
      exact q
    · rw [if_neg h3]
      by_cases h4 : (k == 1 || z.length == 0) = true
      · rw [if_pos h4]
        refine ⟨.str z, H, I, ⟨_, rfl⟩, ?_⟩
        have e : (⟨(List.replicate k.toNat z.cps.toList).flatten.toArray⟩ : Str) = z := TL.ext_tl (by
          show (List.replicate k.toNat z.cps.toList).flatten = z.cps.toList
          simp only [Bool.or_eq_true, beq_iff_eq] at h4
          rcases h4 with h4 | h4
          · subst h4; simp
          · have : z.cps.toList = [] := by
              have : z.cps.size = 0 := h4
              simpa using this
            rw [this]; simp)
        rw [e] at q
        exact q
      · rw [if_neg h4]
        have e : (⟨(List.replicate k.toNat z.cps).foldl (· ++ ·) #[]⟩ : Str) = ⟨(List.replicate k.toNat z.cps.toList).flatten.toArray⟩ := by
          rw [fold_app]; simp
        rw [e]
        refine ⟨?_, ⟨.str _, H, I.tok _, ⟨_, rfl⟩, q⟩⟩
        show (List.replicate k.toNat z.cps.toList).flatten.toArray.size ≤ sizeLine
        simp only [List.size_toArray, List.length_flatten, List.map_replicate, List.sum_replicate_nat, Array.length_toList]
        rw [Nat.mul_comm]; exact hz
def rMulD : R2 := fun x y H Q => rI CMul (fun i j => .int (i * j)) x y H Q ∨ (rRepS x y H Q ∨ rRep x y H Q)
theorem op_mulD : OpR X (binaryOp .Mult) rMulD := op_mul.or (op_repS.or op_rep)
theorem o_mul : Op2 X rMulD fMul := by
  intro S H x y dx dy d ps qs Q s rx ry e k
  unfold fMul at e
  split at e
  · split at e
    · rename_i h
      cases rx; cases ry; cases e
      refine .inl ⟨_, _, rfl, rfl, ?_, newV s (.int _) k⟩
      simp only [fits64, Bool.or_eq_true, Bool.and_eq_true, decide_eq_true_eq] at h
      exact h
    · cases e
  · split at e
    · rename_i z n h
      simp only [fits62, Bool.and_eq_true, decide_eq_true_eq] at h
      cases ry
      cases rx with | str _ ha =>
      cases e
      refine .inr (.inl ⟨_, _, rfl, rfl, by omega, by omega, by rw [tS_len, line_eq]; exact h.1, ?_⟩)
      refine newV s (.str _ fun c hc => ?_) k
      obtain ⟨l, hl, hc⟩ := List.mem_flatten.mp hc
      rw [(List.mem_replicate.mp hl).2] at hc
      exact ha c hc
    · cases e
  · split at e
    · rename_i o xs n h
      simp only [fits62, Bool.and_eq_true, decide_eq_true_eq] at h
      cases ry; cases e
      obtain ⟨l1, v1, q1, rfl, h1, r1⟩ := rx.lst s
      refine .inr (.inr ⟨l1, n, v1, rfl, rfl, h1, by omega, by omega, by rw [r1.length, line_eq]; exact h.1.1, fun p hp => ?_⟩)
      have hr : ∀ m : Nat, RpAll X.K S H (List.replicate m v1).flatten (List.replicate m xs).flatten [] ∧ shs (List.replicate m xs).flatten = true := by
        intro m
        induction m with
        | zero => exact ⟨.nil, rfl⟩
        | succ m ih =>
          rw [List.replicate_succ, List.replicate_succ, List.flatten_cons, List.flatten_cons]
          exact ⟨by simpa using ((r1.sh h.2).2 H).append ih.1, shs_append h.2 ih.2⟩
      exact newL s (hr _).1 (hr _).2 hp k
    · cases e
  · cases e

/-! ### equality -/
mutual
def py : D → PyData
  | .non => .none
  | .bl b => .bool b
  | .int i => .int i
  | .str s => .str (tS s)
  | .lst _ xs => .list (pys xs)
  | .tup _ xs => .tuple (pys xs)
  | .dic _ _ _ => .none
  | .ins _ _ _ _ => .none
  | .scr _ => .none
def pys : List D → List PyData
  | [] => []
  | x :: xs => py x :: pys xs
end
mutual
theorem Rp.dp {K : PySem.W.Frag} {S H : Hp} (s : Same S H) : ∀ {v : V} {d : D} {ps : List Addr}, Rp K S H v d ps → d.pl = true → Dp K H v (py d) ∧ (py d).canLay0 = true ∧ (py d).depth = d.dep
  | _, _, _, .non, _ => ⟨.non, rfl, rfl⟩
  | _, _, _, .bl b, _ => ⟨.bl b, rfl, rfl⟩
  | _, _, _, .int i, _ => ⟨.int i, rfl, rfl⟩
  | _, _, _, .str z h, _ => ⟨.str _, by
      simpa [py, PyData.canLay0, PyData.strOk, tS] using h, rfl⟩
  | _, _, _, .scr ns q, h => by simp [D.pl] at h
  | _, _, _, .dicS _ _ _ _, h => by simp [D.pl] at h
  | _, _, _, .dicO _ _ _, h => by simp [D.pl] at h
  | _, _, _, .lstS q r z, h => by
    obtain ⟨a, b, c⟩ := RpAll.dp s r (by simpa [D.pl] using h)
    exact ⟨.lst (.inl (.inl (s _ _ q))) a, b, by simp [py, PyData.depth, D.dep, c]⟩
  | _, _, _, .lstO q r, h => by
    obtain ⟨a, b, c⟩ := RpAll.dp s r (by simpa [D.pl] using h)
    exact ⟨.lst (.inl (.inl q)) a, b, by simp [py, PyData.depth, D.dep, c]⟩
  | _, _, _, .tupS q r z, h => by
    obtain ⟨a, b, c⟩ := RpAll.dp s r (by simpa [D.pl] using h)
    exact ⟨.tup (sqt_mono s q) a, b, by simp [py, PyData.depth, D.dep, c]⟩
  | _, _, _, .tupO q r, h => by
    obtain ⟨a, b, c⟩ := RpAll.dp s r (by simpa [D.pl] using h)
    exact ⟨.tup (.inl (.inl q)) a, b, by simp [py, PyData.depth, D.dep, c]⟩
theorem RpAll.dp {K : PySem.W.Frag} {S H : Hp} (s : Same S H) : ∀ {vs : List V} {ds : List D} {ps : List Addr}, RpAll K S H vs ds ps → pls ds = true → DpAll K H vs (pys ds) ∧ PyData.canLayAll0 (pys ds) = true ∧ PyData.depthAll (pys ds) = deps ds
  | _, _, _, .nil, _ => ⟨.nil, rfl, rfl⟩
  | _, _, _, .cons r t, h => by
    simp only [pls, Bool.and_eq_true] at h
    obtain ⟨a, b, c⟩ := Rp.dp s r h.1
    obtain ⟨a', b', c'⟩ := RpAll.dp s t h.2
    exact ⟨.cons a a', by simp [pys, PyData.canLayAll0, b, b'], by simp [pys, PyData.depthAll, deps, c, c']⟩
end
theorem tS_beq (a b : Tx) : (tS a == tS b) = (a == b) := by
  by_cases h : a = b
  · subst h; simp
  · have h' : tS a ≠ tS b := fun z => h (tS_inj z)
    rw [beq_eq_false_iff_ne.mpr h, beq_eq_false_iff_ne.mpr h']
mutual
theorem py_eqv : ∀ d e : D, d.pl = true → e.pl = true → PyData.eqv (py d) (py e) = d.eqv e
  | .non, e, _, h => by cases e <;> simp [py, PyData.eqv, D.eqv, D.pl] at h ⊢
  | .bl b, e, _, h => by cases e <;> simp [py, PyData.eqv, D.eqv, D.pl] at h ⊢
  | .int b, e, _, h => by cases e <;> simp [py, PyData.eqv, D.eqv, D.pl] at h ⊢
  | .str b, e, _, h => by cases e <;> simp [py, PyData.eqv, D.eqv, D.pl, tS_beq] at h ⊢
  | .lst o xs, e, h1, h => by
    cases e <;> simp [py, PyData.eqv, D.eqv, D.pl] at h h1 ⊢
    exact pys_eqv xs _ h1 h
  | .tup o xs, e, h1, h => by
    cases e <;> simp [py, PyData.eqv, D.eqv, D.pl] at h h1 ⊢
    exact pys_eqv xs _ h1 h
  | .dic _ _ _, e, h1, _ => by simp [D.pl] at h1
  | .ins _ _ _ _, e, h1, _ => by simp [D.pl] at h1
  | .scr _, e, h1, _ => by simp [D.pl] at h1
theorem pys_eqv : ∀ ds es : List D, pls ds = true → pls es = true → PyData.eqvAll (pys ds) (pys es) = eqvs ds es
  | [], es, _, _ => by cases es <;> simp [pys, PyData.eqvAll, eqvs]
  | d :: ds, es, h1, h => by
    cases es with
    | nil => simp [pys, PyData.eqvAll, eqvs]
    | cons e es =>
      simp only [pls, Bool.and_eq_true] at h h1
      simp [pys, PyData.eqvAll, eqvs, py_eqv d e h1.1 h.1, pys_eqv ds es h1.2 h.2]
end
theorem o_eq : Op2 X (rEqD X.K) fEq := by
  intro S H x y dx dy d ps qs Q s rx ry e k
  unfold fEq at e
  split at e
  · rename_i h
    simp only [Bool.and_eq_true, decide_eq_true_eq] at h
    cases e
    obtain ⟨a, b, c⟩ := rx.dp s h.1.1.1
    obtain ⟨a', b', c'⟩ := ry.dp s h.1.1.2
    refine ⟨_, _, a, a', by simp [SeqAt.shaped, b, c, h.1.2], by simp [SeqAt.shaped, b', c', h.2], ?_⟩
    rw [py_eqv _ _ h.1.1.1 h.1.1.2]
    exact newV s (.bl _) k
  · cases e
theorem o_ne : Op2 X (rNeD X.K) fNe := by
  intro S H x y dx dy d ps qs Q s rx ry e k
  unfold fNe at e
  split at e
  · rename_i h
    simp only [Bool.and_eq_true, decide_eq_true_eq] at h
    cases e
    obtain ⟨a, b, c⟩ := rx.dp s h.1.1.1
    obtain ⟨a', b', c'⟩ := ry.dp s h.1.1.2
    refine ⟨_, _, a, a', by simp [SeqAt.shaped, b, c, h.1.2], by simp [SeqAt.shaped, b', c', h.2], ?_⟩
    rw [py_eqv _ _ h.1.1.1 h.1.1.2]
    exact newV s (.bl _) k
  · cases e

/-! ### in -/
theorem pre_eq (S l : Tx) : preT S l = TL.pre S l := rfl
theorem sub_iff (S : Tx) : ∀ l : Tx, subT S l = true ↔ ∃ i, i ≤ l.length ∧ (l.drop i).take S.length = S
  | [] => by
    constructor
    · intro h
      have : S = [] := by simpa [subT] using h
      subst this
      exact ⟨0, by simp⟩
    · rintro ⟨i, hi, h⟩
      simp at h
      simp [subT, h]
  | c :: r => by
    unfold subT
    rw [Bool.or_eq_true, sub_iff S r]
    constructor
    · rintro (h | ⟨i, hi, h⟩)
      · exact ⟨0, by simp, by simpa [preT] using h⟩
      · exact ⟨i + 1, by simpa using hi, by simpa using h⟩
    · rintro ⟨i, hi, h⟩
      cases i with
      | zero => exact .inl (by simpa [preT] using h)
      | succ i => exact .inr ⟨i, by simpa using hi, by simpa using h⟩
theorem in_sub (a b : Tx) : (!(Builtin.Str.occurrences (tS b) (tS a) 0 (tS b).length 1).isEmpty) = subT a b := by
  have key : (!(Builtin.Str.occurrences (tS b) (tS a) 0 (tS b).length 1).isEmpty) = true ↔ subT a b = true := by
    rw [StrLaws.found_iff, sub_iff]
    have hs : ∀ i, Builtin.Str.subAt (tS b) (tS a) i = true ↔ (b.drop i).take a.length = a := by
      intro i
      unfold Builtin.Str.subAt
      rw [beq_iff_eq, tS_len]
      show (b.toArray.extract i (i + a.length)) = a.toArray ↔ _
      rw [← Array.toList_inj]
      simp only [List.extract_toArray, List.extract_eq_take_drop]
      rw [show i + a.length - i = a.length by omega]
    constructor
    · rintro ⟨i, h1, h2⟩
      rw [tS_len, tS_len] at h1
      exact ⟨i, by omega, (hs i).mp h2⟩
    · rintro ⟨i, h1, h2⟩
      refine ⟨i, ?_, (hs i).mpr h2⟩
      rw [tS_len, tS_len]
      have := congrArg List.length h2
      simp only [List.length_take, List.length_drop] at this
      omega
  cases h : subT a b with
  | true => exact key.mpr h
  | false =>
    cases h' : (!(Builtin.Str.occurrences (tS b) (tS a) 0 (tS b).length 1).isEmpty) with
    | false => rfl
    | true => rw [key.mp h'] at h; cases h
theorem fl_eqv {K : PySem.W.Frag} {S H : Hp} {x y : V} {dx dy : D} {ps qs : List Addr} (rx : Rp K S H x dx ps) (ry : Rp K S H y dy qs) (fx : dx.fl = true) (fy : dy.fl = true) : flatV x = true ∧ eqV x y = dx.eqv dy := by
  cases rx <;> simp [D.fl] at fx <;> cases ry <;> simp [D.fl] at fy <;> simp [flatV, eqV, D.eqv, tS_beq]
theorem fl_in {K : PySem.W.Frag} {S H : Hp} {x : V} {dx : D} {ps : List Addr} (rx : Rp K S H x dx ps) (fx : dx.fl = true) : ∀ {vs : List V} {ds : List D} {qs : List Addr}, RpAll K S H vs ds qs → allFl ds = true → vs.all flatV = true ∧ inV x vs = memD dx ds
  | _, _, _, .nil, _ => ⟨rfl, rfl⟩
  | _, _, _, .cons r t, h => by
    simp only [allFl, Bool.and_eq_true] at h
    obtain ⟨a, b⟩ := fl_in rx fx t h.2
    obtain ⟨c, e⟩ := fl_eqv r rx h.1 fx
    unfold inV at b ⊢
    exact ⟨by simp [c, a], by simp [memD, e, b]⟩
def rInD (K : PySem.W.Frag) (neg : Bool) : R2 := fun x y H Q => (∃ i j, x = .str i ∧ y = .str j ∧ Q (.bl (if neg then !(!(Builtin.Str.occurrences j i 0 j.length 1).isEmpty) else (!(Builtin.Str.occurrences j i 0 j.length 1).isEmpty))) H) ∨ rIn K neg x y H Q
theorem op_inD : OpR X (compareOp .In) (rInD X.K false) := op_in_str.or op_in_seq
theorem op_ninD : OpR X (compareOp .NotIn) (rInD X.K true) := op_notin_str.or op_notIn_seq
theorem o_inG (neg : Bool) : ∀ (S H : Hp) (x y : V) (dx dy : D) (b : Bool) (ps qs : List Addr) (Q : VK), Same S H → Rp X.K S H x dx ps → Rp X.K S H y dy qs → fIn dx dy = some (.bl b) → Q (.bl (if neg then !b else b)) H → rInD X.K neg x y H Q := by
  intro S H x y dx dy b ps qs Q s rx ry e k
  unfold fIn at e
  split at e
  · cases rx with | str _ ha => cases ry with | str _ hb =>
    cases e
    refine .inl ⟨_, _, rfl, rfl, ?_⟩
    rw [in_sub]
    exact k
  · split at e
    · rename_i h
      simp only [Bool.and_eq_true] at h
      cases e
      obtain ⟨l1, v1, q1, rfl, h1, r1⟩ := ry.lst s
      obtain ⟨a, c⟩ := fl_in rx h.1 r1 h.2
      have fx := (fl_eqv rx rx h.1 h.1).1
      exact .inr ⟨l1, v1, rfl, .inl (.inl (.inl h1)), fx, a, by rw [c]; exact k⟩
    · cases e
  · split at e
    · rename_i h
      simp only [Bool.and_eq_true] at h
      cases e
      obtain ⟨l1, v1, q1, rfl, h1, r1⟩ := ry.tup s
      obtain ⟨a, c⟩ := fl_in rx h.1 r1 h.2
      have fx := (fl_eqv rx rx h.1 h.1).1
      exact .inr ⟨l1, v1, rfl, .inr h1, fx, a, by rw [c]; exact k⟩
    · cases e
  · cases e
theorem fIn_bl {dx dy d : D} (h : fIn dx dy = some d) : ∃ b, d = .bl b := by
  unfold fIn at h
  split at h
  · cases h; exact ⟨_, rfl⟩
  · split at h
    · cases h; exact ⟨_, rfl⟩
    · cases h
  · split at h
    · cases h; exact ⟨_, rfl⟩
    · cases h
  · cases h
theorem o_in : Op2 X (rInD X.K false) fIn := by
  intro S H x y dx dy d ps qs Q s rx ry e k
  obtain ⟨b, rfl⟩ := fIn_bl e
  exact o_inG false S H x y dx dy b ps qs Q s rx ry e (newV s (.bl _) k)
theorem o_nin : Op2 X (rInD X.K true) fNin := by
  intro S H x y dx dy d ps qs Q s rx ry e k
  unfold fNin at e
  split at e
  · rename_i b h
    cases e
    exact o_inG true S H x y dx dy b ps qs Q s rx ry h (newV s (.bl _) k)
  · cases e

/-! ### is -/
def rIsND : R2 := fun x y H Q => y = .non ∧ Q (.bl (decide (x = .non))) H
def rNotND : R2 := fun x y H Q => y = .non ∧ Q (.bl (!decide (x = .non))) H
theorem non_iff {K : PySem.W.Frag} {S H : Hp} {x : V} {dx : D} {ps : List Addr} (rx : Rp K S H x dx ps) : decide (x = .non) = dx.isNon := by
  cases rx <;> simp [D.isNon]

/-! ### items -/
theorem ixD_eq : ixD = ixN := rfl
theorem o_ix : Op2 X (rIx X.K) fIx := by
  intro S H x y dx dy d ps qs Q s rx ry e k
  unfold fIx at e
  split at e
  · cases ry
    obtain ⟨l1, v1, q1, rfl, h1, r1⟩ := rx.lst s
    obtain ⟨j, hj, e⟩ := Option.bind_eq_some_iff.mp e
    obtain ⟨d', hd, e⟩ := Option.bind_eq_some_iff.mp e
    split at e
    · rename_i hs
      cases e
      obtain ⟨v, rs, hv, rv, _⟩ := r1.get hd
      refine .inl ⟨l1, v1, _, v, rfl, rfl, .inl (.inl h1), ?_, newV s ((rv.sh hs).2 H) k⟩
      unfold atI
      rw [r1.length, ← ixD_eq, hj]
      exact hv
    · cases e
  · cases ry
    obtain ⟨l1, v1, q1, rfl, h1, r1⟩ := rx.tup s
    obtain ⟨j, hj, e⟩ := Option.bind_eq_some_iff.mp e
    obtain ⟨d', hd, e⟩ := Option.bind_eq_some_iff.mp e
    split at e
    · rename_i hs
      cases e
      obtain ⟨v, rs, hv, rv, _⟩ := r1.get hd
      refine .inr (.inl ⟨l1, v1, _, v, rfl, rfl, h1, ?_, newV s ((rv.sh hs).2 H) k⟩)
      unfold atI
      rw [r1.length, ← ixD_eq, hj]
      exact hv
    · cases e
  · cases ry
    rename_i ns i
    cases rx with | scr _ q =>
    obtain ⟨j, hj, e⟩ := Option.bind_eq_some_iff.mp e
    obtain ⟨n, hn, e⟩ := Option.map_eq_some_iff.mp e
    subst e
    refine .inl ⟨_, _, _, .int n, rfl, rfl, sql_mono s q, ?_, newV s (.int n) k⟩
    unfold atI
    rw [List.length_map, ← ixD_eq, hj]
    simp [hn]
  · cases ry
    split at e
    · rename_i z i hz
      cases rx with | str _ ha =>
      obtain ⟨j, hj, e⟩ := Option.bind_eq_some_iff.mp e
      obtain ⟨c, hc, e⟩ := Option.map_eq_some_iff.mp e
      subst e
      refine .inr (.inr ⟨_, _, c, rfl, rfl, by rw [tS_len, line_eq]; exact hz, ?_, ?_⟩)
      · unfold atI
        show (ixN z.length i).bind _ = _
        rw [← ixD_eq, hj]
        exact hc
      · exact newV s (.str [c] (by
          intro c' hc'
          have : c' = c := by simpa using hc'
          subst this
          exact ha c' (List.mem_of_getElem? hc))) k
    · cases e
  · cases e

/-! ### slices -/
def rSlD (K : PySem.W.Frag) : V → Option Int → Option Int → Hp → VK → Prop := fun x lo hi H Q => rSlL K x lo hi H Q ∨ rSlS x lo hi H Q
theorem sl_D : SlR X (rSlD X.K) := sl_list.or sl_str
theorem sIxD_eq : sIxD = HT.sIx := rfl
theorem RpAll.cutV {K : PySem.W.Frag} {S H : Hp} {vs : List V} {ds : List D} {ps : List Addr} (r : RpAll K S H vs ds ps) (sh : shs ds = true) (lo hi : Option Int) : RpAll K S H (L2.cutV vs lo hi) (cutL ds lo hi) [] ∧ shs (cutL ds lo hi) = true := by
  unfold L2.cutV cutL
  rw [r.length, ← sIxD_eq]
  exact ⟨(r.drop _ sh).take _ (shs_drop _ sh), shs_take _ (shs_drop _ sh)⟩
theorem o_sl (S H : Hp) (x : V) (dx d : D) (lo hi : Option Int) (ps : List Addr) (Q : VK) (s : Same S H) (rx : Rp X.K S H x dx ps) (e : cutD dx lo hi = some d)
    (k : ∀ v S' H' rs, Grow S H S' H' → Fresh H S' rs → Rp X.K S' H' v d rs → Q v H') : rSlD X.K x lo hi H Q := by
  unfold cutD at e
  split at e
  · split at e
    · rename_i z hz
      cases rx with | str _ ha =>
      cases e
      refine .inr ⟨_, rfl, by rw [tS_len, line_eq]; exact hz, ?_⟩
      refine newV s (v := .str (cutS (tS z) lo hi)) ?_ k
      have e : cutS (tS z) lo hi = tS (cutL z lo hi) := by
        unfold cutS cutL
        rw [tS_len, sIxD_eq]
        rfl
      rw [e]
      exact .str _ fun c hc => ha c (List.mem_of_mem_drop (List.mem_of_mem_take hc))
    · cases e
  · split at e
    · rename_i hs
      cases e
      obtain ⟨l1, v1, q1, rfl, h1, r1⟩ := rx.lst s
      obtain ⟨a, b⟩ := r1.cutV hs lo hi
      exact .inl ⟨l1, v1, rfl, .inl (.inl h1), fun p hp => newL s a b hp k⟩
    · cases e
  · rename_i ns
    cases e
    cases rx with | scr _ q =>
    refine .inl ⟨_, _, rfl, sql_mono s q, fun p hp => ?_⟩
    have h1 : ∀ l : List Int, RpAll X.K S H (l.map V.int) (l.map D.int) [] ∧ shs (l.map D.int) = true := by
      intro l
      induction l with
      | nil => exact ⟨.nil, rfl⟩
      | cons a l ih => exact ⟨.cons (.int a) ih.1, by simpa [shs, D.sh] using ih.2⟩
    have h2 : L2.cutV (ns.map V.int) lo hi = (cutL ns lo hi).map V.int := by
      unfold L2.cutV cutL
      rw [List.length_map, sIxD_eq, List.map_take, List.map_drop]
    rw [h2]
    exact newL s (h1 _).1 (h1 _).2 hp k
  · cases e
end
end G


set_option maxHeartbeats 1000000
/-! Own layer, part 5: arguments, displays, calls, methods, slices. -/
namespace G
open PySem L2
section
variable {cl : Cl} {K : PySem.W.Frag} {W : WX} {σ : St} {S H S1 H1 : Hp} {r : Res D} {rs : Res (List D)} {Q : VK} {QA : List V → Hp → Prop}
theorem PostO.ofA {g : D → Res (List D)} (h : PostA cl K W σ S H (r.bind g) QA) :
    PostO cl K W σ S H r (fun v H1 => ∃ d S1 qs, r = .ok d ∧ Grow S H S1 H1 ∧ Rp K S1 H1 v d qs ∧ PostA cl K W σ S1 H1 (g d) QA) := by
  cases r with
  | no => exact h
  | ok d => 
    refine fun v S' H' qs g' rp => ⟨d, S', qs, rfl, g', rp, ?_⟩
    have h : PostA cl K W σ S H (g d) QA := h
    cases k : g d with
    | no => rw [k] at h; exact h
    | ok ds => rw [k] at h; exact fun vs S2 H2 ps g2 ra => h vs S2 H2 ps (g'.trans g2) ra
    | ex c fs => rw [k] at h; exact fun S2 H2 cls dd g2 x => h S2 H2 cls dd (g'.trans g2) x
  | ex c fs => exact h
theorem PostE.ofAE {g : D → Res (List D)} (h : PostAE cl K W σ S H (r.bind g) QA) :
    PostE cl K W σ S H r (fun v H1 => ∃ d S1 qs, r = .ok d ∧ Grow S H S1 H1 ∧ Fresh H S1 qs ∧ Rp K S1 H1 v d qs ∧ PostAE cl K W σ S1 H1 (g d) QA) := by
  cases r with
  | no => exact h
  | ok d => 
    refine fun v S' H' qs g' f rp => ⟨d, S', qs, rfl, g', f, rp, ?_⟩
    have h : PostAE cl K W σ S H (g d) QA := h
    cases k : g d with
    | no => rw [k] at h; exact h
    | ok ds => rw [k] at h; exact fun vs S2 H2 ps g2 f2 ra => h vs S2 H2 ps (g'.trans g2) (f2.back g'.hh) ra
    | ex c fs => rw [k] at h; exact fun S2 H2 cls dd g2 x => h S2 H2 cls dd (g'.trans g2) x
  | ex c fs => exact h
theorem post_args {g : List D → Res D} (h : PostE cl K W σ S H (rs.bind g) Q) :
    PostA cl K W σ S H rs (fun vs H1 => ∃ ds S1 qs, rs = .ok ds ∧ Grow S H S1 H1 ∧ RpAll K S1 H1 vs ds qs ∧ PostE cl K W σ S1 H1 (g ds) Q) := by
  cases rs with
  | no => exact h
  | ok ds => exact fun vs S' H' qs g' ra => ⟨ds, S', qs, rfl, g', ra, PostE.on g' h⟩
  | ex c fs => exact h
theorem post_argsE {g : List D → Res D} (h : PostE cl K W σ S H (rs.bind g) Q) :
    PostAE cl K W σ S H rs (fun vs H1 => ∃ ds S1 qs, rs = .ok ds ∧ Grow S H S1 H1 ∧ Fresh H S1 qs ∧ RpAll K S1 H1 vs ds qs ∧ PostE cl K W σ S H (g ds) Q) := by
  cases rs with
  | no => exact h
  | ok ds => exact fun vs S' H' qs g' f ra => ⟨ds, S', qs, rfl, g', f, ra, h⟩
  | ex c fs => exact h
end

section
variable {cl : Cl} {X : Cx} {W : WX} {e a b c : Expr} {es : List Expr} {f g h : E} {fs : List E} {pos p : Pos}
theorem da_nil : DA cl X W [] [] := ⟨tNil, pa_nil, fun σ ρ S H Q l s z => z [] S H [] (Grow.refl s) .nil⟩
theorem da_cons (ha : DO cl X W e f) (hr : DA cl X W es fs) (hs : starEach (e :: es) X.env = (false, eval e X.env) :: starEach es X.env := by rfl) : DA cl X W (e :: es) (f :: fs) := by
  obtain ⟨ta, pa, qa⟩ := ha.pf
  obtain ⟨tr, pr, qr⟩ := hr.pf
  refine ⟨_, pa_cons pa pr hs, fun σ ρ S H Q l s z => ?_⟩
  refine qa σ ρ S H _ l s ((PostO.ofA z).imp ?_)
  rintro v H1 ⟨d, S1, qs, e, g1, rp, z1⟩
  refine qr σ ρ S1 H1 _ (l.mono g1) g1.sh ?_
  cases k : eArgs fs ρ with
  | no => rw [k] at z1; exact z1
  | ex c fs => rw [k] at z1; exact z1
  | ok ds =>
    rw [k] at z1
    exact fun vs S2 H2 ps g2 ra => z1 (v :: vs) S2 H2 _ g2 (.cons (rp.mono g2.ss g2.hh) ra)
theorem dae_nil : DAE cl X W [] [] := ⟨tNil, pa_nil, fun σ ρ S H Q l s z => z [] S H [] (Grow.refl s) Fresh.nil .nil⟩
theorem dae_cons (ha : DE cl X W e f) (hr : DAE cl X W es fs) (hs : starEach (e :: es) X.env = (false, eval e X.env) :: starEach es X.env := by rfl) : DAE cl X W (e :: es) (f :: fs) := by
  obtain ⟨ta, pa, qa⟩ := ha.pf
  obtain ⟨tr, pr, qr⟩ := hr.pf
  refine ⟨_, pa_cons pa pr hs, fun σ ρ S H Q l s z => ?_⟩
  have z0 := PostE.ofAE (r := f ρ) z
  refine qa σ ρ S H _ l s ?_
  cases kf : f ρ with
  | no => rw [kf] at z0; exact z0
  | ex c fs => rw [kf] at z0; exact z0
  | ok d0 =>
    rw [kf] at z0
    intro v S1 H1 qs g1 f1 rp
    obtain ⟨d, S1', qs', e, g1', f1', rp', z1⟩ := z0 v S1 H1 qs g1 f1 rp
    cases e
    -- the continuation's own S1 is the one given
    refine qr σ ρ S1' H1 _ (l.mono g1') g1'.sh ?_
    have z2 : PostAE cl X.K W σ S H ((Res.ok d0).bind fun d => (eArgs fs ρ).bind fun ds => .ok (d :: ds)) Q := by
      have : eArgs (f :: fs) ρ = (f ρ).bind fun d => (eArgs fs ρ).bind fun ds => .ok (d :: ds) := rfl
      rw [this, kf] at z
      exact z
    cases k : eArgs fs ρ with
    | no => rw [k] at z1; exact z1
    | ex c fs => rw [k] at z1; exact z1
    | ok ds =>
      simp only [k, Res.bind] at z2
      exact fun vs S2 H2 ps g2 f2 ra => z2 (v :: vs) S2 H2 _ (g1'.trans g2) (f1'.app (fun q hq => rp'.there q hq) g1'.hh g2 f2) (.cons (rp'.mono g2.ss g2.hh) ra)
theorem de_lst (h : DAE cl X W es fs) (hz : fs.length ≤ 1000000 := by decide) : DE cl X W (.List es pos) (eL fs) := by
  obtain ⟨t, pt, q⟩ := h.pf
  refine ⟨_, pe_lst pt, fun σ ρ S H Q l s z => q σ ρ S H _ l s ?_⟩
  have z0 := post_argsE z
  cases k : eArgs fs ρ with
  | no => rw [k] at z0; exact z0
  | ex c fs => rw [k] at z0; exact z0
  | ok ds =>
    have hl : ds.length = fs.length := by
      clear z z0 h q pt hz
      induction fs generalizing ds with
      | nil => cases k; rfl
      | cons f fs ih =>
        unfold eArgs at k
        cases k1 : f ρ <;> simp [k1, Res.bind] at k
        cases k2 : eArgs fs ρ <;> simp [k2] at k
        subst k
        simp [ih _ k2]
    rw [k] at z0
    intro vs S' H' qs g f ra
    obtain ⟨ds', S1, qs', e, g1, f1, ra1, z1⟩ := z0 vs S' H' qs g f ra
    cases e
    refine ⟨by rw [ra1.length, hl]; exact Nat.le_trans hz (by decide), fun p hp => ?_⟩
    refine z1 (.ref p) S1 _ (p :: qs') (g1.more (same_new hp)) ⟨List.nodup_cons.mpr ⟨fun hq => ?_, f1.1⟩, fun q hq => ?_⟩ (.lstO upd_same (ra1.mono (Same.refl _) (same_new hp)))
    · obtain ⟨o, ho⟩ := ra1.there p hq
      rw [hp] at ho; cases ho
    · rcases List.mem_cons.mp hq with rfl | hq
      · exact ⟨none_back g1.hh hp, none_back g1.sh hp⟩
      · exact f1.2 q hq
theorem de_tup {x1} (h : DAE cl X W es fs) (hz : fs.length ≤ 1000000 := by decide) : DE cl X W (.Tuple es x1 pos) (eT fs) := by
  obtain ⟨t, pt, q⟩ := h.pf
  refine ⟨_, pe_tup pt, fun σ ρ S H Q l s z => q σ ρ S H _ l s ?_⟩
  have z0 := post_argsE z
  cases k : eArgs fs ρ with
  | no => rw [k] at z0; exact z0
  | ex c fs => rw [k] at z0; exact z0
  | ok ds =>
    have hl : ds.length = fs.length := by
      clear z z0 h q pt hz
      induction fs generalizing ds with
      | nil => cases k; rfl
      | cons f fs ih =>
        unfold eArgs at k
        cases k1 : f ρ <;> simp [k1, Res.bind] at k
        cases k2 : eArgs fs ρ <;> simp [k2] at k
        subst k
        simp [ih _ k2]
    rw [k] at z0
    intro vs S' H' qs g f ra
    obtain ⟨ds', S1, qs', e, g1, f1, ra1, z1⟩ := z0 vs S' H' qs g f ra
    cases e
    refine ⟨by rw [ra1.length, hl]; exact Nat.le_trans hz (by decide), fun p hp => ?_⟩
    refine z1 (.ref p) S1 _ (p :: qs') (g1.more (same_new hp)) ⟨List.nodup_cons.mpr ⟨fun hq => ?_, f1.1⟩, fun q hq => ?_⟩ (.tupO upd_same (ra1.mono (Same.refl _) (same_new hp)))
    · obtain ⟨o, ho⟩ := ra1.there p hq
      rw [hp] at ho; cases ho
    · rcases List.mem_cons.mp hq with rfl | hq
      · exact ⟨none_back g1.hh hp, none_back g1.sh hp⟩
      · exact f1.2 q hq

/-! ### built-ins -/
theorem de_b1 {x : Str} {id : String} {r : List V → Hp → VK → Prop} {F : D → Option D} (hc : CallR X (.builtin id) r) (o : Op1 X (fun v => r [v]) F) (hg : Gl X x) (hm : X.mg x = none) (hv : bootBuiltins x = some (.builtin id)) (ha : DO cl X W a f)
    (hn : x ≠ "__name__" := by decide) (hdb : (x == ("__debug__" : Str)) = false := by decide) (hs : starEach [a] X.env = [(false, eval a X.env)] := by rfl) : DE cl X W (.Call (.Name x p) [a] [] pos) (e1 F f) :=
  de_1 (r := fun v => r [v]) (fun ta pa => pe_callB hc hg hm hv (pa_cons pa pa_nil hs) hn hdb hs) o ha
theorem de_t1 {x : Str} {T : String} {r : List V → Hp → VK → Prop} {F : D → Option D} (hc : CallR X (.type T) r) (o : Op1 X (fun v => r [v]) F) (hg : Gl X x) (hm : X.mg x = none) (hv : bootBuiltins x = some (.type T)) (ha : DO cl X W a f)
    (hn : x ≠ "__name__" := by decide) (hdb : (x == ("__debug__" : Str)) = false := by decide) (hs : starEach [a] X.env = [(false, eval a X.env)] := by rfl) : DE cl X W (.Call (.Name x p) [a] [] pos) (e1 F f) :=
  de_1 (r := fun v => r [v]) (fun ta pa => pe_callTy hc hg hm hv (pa_cons pa pa_nil hs) hn hdb hs) o ha
theorem de_b2 {x : Str} {id : String} {r : List V → Hp → VK → Prop} {F : D → D → Option D} (hc : CallR X (.builtin id) r) (o : Op2 X (fun v u => r [v, u]) F) (hg : Gl X x) (hm : X.mg x = none) (hv : bootBuiltins x = some (.builtin id)) (ha : DO cl X W a f) (hb : DO cl X W b g)
    (hn : x ≠ "__name__" := by decide) (hdb : (x == ("__debug__" : Str)) = false := by decide) (hs : starEach [a, b] X.env = (false, eval a X.env) :: starEach [b] X.env := by rfl) (hs2 : starEach [b] X.env = [(false, eval b X.env)] := by rfl) (hpl : (backTo pos (starEach [b] X.env)).any (·.1) = false := by rfl) : DE cl X W (.Call (.Name x p) [a, b] [] pos) (e2 F f g) :=
  de_2 (r := fun v u => r [v, u]) (fun ta tb pa pb => pe_callB hc hg hm hv (pa_cons pa (pa_cons pb pa_nil hs2) hs) hn hdb hs hpl) o ha hb
theorem o_len : Op1 X (fun v => (fun xs H Q => ∃ x n, xs = [x] ∧ LenV X.K x H n ∧ Q (.int n) H : List V → Hp → VK → Prop) [v]) fLen := by
  intro S H x dx d ps Q s rx e k
  unfold fLen at e
  split at e
  · split at e
    · rename_i z hz
      cases e
      cases rx with | str _ ha =>
      exact ⟨_, z.length, rfl, ⟨by rw [tS_len, line_eq]; exact hz, (tS_len z).symm⟩, newV s (.int _) k⟩
    · cases e
  · cases e
    obtain ⟨l1, v1, q1, rfl, h1, r1⟩ := rx.lst s
    exact ⟨_, _, rfl, .inl ⟨v1, .inl (.inl h1), rfl⟩, by rw [r1.length]; exact newV s (.int _) k⟩
  · cases e
    obtain ⟨l1, v1, q1, rfl, h1, r1⟩ := rx.tup s
    exact ⟨_, _, rfl, .inr ⟨v1, h1, rfl⟩, by rw [r1.length]; exact newV s (.int _) k⟩
  · rename_i ns
    cases e
    cases rx with | scr _ q =>
    exact ⟨_, _, rfl, .inl ⟨_, sql_mono s q, rfl⟩, by rw [List.length_map]; exact newV s (.int _) k⟩
  · cases e
theorem o_int : Op1 X (fun v => (fun xs H Q => (∃ i, xs = [.int i] ∧ Q (.int i) H) ∨ ∃ k, xs = [.bl k] ∧ Q (.int (if k then 1 else 0)) H : List V → Hp → VK → Prop) [v]) fInt := by
  intro S H x dx d ps Q s rx e k
  unfold fInt at e
  split at e
  · cases e; cases rx
    exact .inl ⟨_, rfl, newV s (.int _) k⟩
  · cases e; cases rx
    exact .inr ⟨_, rfl, newV s (.int _) k⟩
  · cases e
theorem o_abs : Op1 X (fun v => (fun xs H Q => ∃ i, xs = [.int i] ∧ Q (.int (if i < 0 then -i else i)) H : List V → Hp → VK → Prop) [v]) fAbs := by
  intro S H x dx d ps Q s rx e k
  unfold fAbs at e
  split at e
  · cases e; cases rx
    exact ⟨_, rfl, newV s (.int _) k⟩
  · cases e
theorem o_max2 : Op2 X (fun v u => (fun xs H Q => ∃ i j, xs = [.int i, .int j] ∧ Q (.int (if j > i then j else i)) H : List V → Hp → VK → Prop) [v, u]) fMax2 := by
  intro S H x y dx dy d ps qs Q s rx ry e k
  unfold fMax2 at e
  split at e
  · cases e; cases rx; cases ry
    exact ⟨_, _, rfl, newV s (.int _) k⟩
  · cases e
theorem o_min2 : Op2 X (fun v u => (fun xs H Q => ∃ i j, xs = [.int i, .int j] ∧ Q (.int (if j < i then j else i)) H : List V → Hp → VK → Prop) [v, u]) fMin2 := by
  intro S H x y dx dy d ps qs Q s rx ry e k
  unfold fMin2 at e
  split at e
  · cases e; cases rx; cases ry
    exact ⟨_, _, rfl, newV s (.int _) k⟩
  · cases e
theorem rp_bools {K : PySem.W.Frag} {S H : Hp} : ∀ {vs : List V} {ds : List D} {ps : List Addr} {bs : List Bool}, RpAll K S H vs ds ps → boolsD ds = some bs → vs = bs.map V.bl
  | _, _, _, _, .nil, h => by simp [boolsD] at h; subst h; rfl
  | _, _, _, _, .cons r t, h => by
    cases r <;> simp [boolsD] at h
    obtain ⟨bs', h1, rfl⟩ := h
    rw [rp_bools t h1]; rfl
theorem rp_ints {K : PySem.W.Frag} {S H : Hp} : ∀ {vs : List V} {ds : List D} {ps : List Addr} {bs : List Int}, RpAll K S H vs ds ps → intsD ds = some bs → vs = bs.map V.int
  | _, _, _, _, .nil, h => by simp [intsD] at h; subst h; rfl
  | _, _, _, _, .cons r t, h => by
    cases r <;> simp [intsD] at h
    obtain ⟨bs', h1, rfl⟩ := h
    rw [rp_ints t h1]; rfl
theorem rp_strs {K : PySem.W.Frag} {S H : Hp} : ∀ {vs : List V} {ds : List D} {ps : List Addr} {bs : List Tx}, RpAll K S H vs ds ps → strsD ds = some bs → vs = (bs.map tS).map V.str ∧ ∀ b ∈ bs, ∀ c ∈ b, c < 0x110000
  | _, _, _, _, .nil, h => by simp [strsD] at h; subst h; exact ⟨rfl, fun _ z => nomatch z⟩
  | _, _, _, _, .cons r t, h => by
    cases r <;> simp [strsD] at h
    rename_i z hz
    obtain ⟨bs', h1, rfl⟩ := h
    obtain ⟨e1, e2⟩ := rp_strs t h1
    exact ⟨by rw [e1]; rfl, fun b hb => (List.mem_cons.mp hb).elim (fun e => e ▸ hz) (e2 b)⟩
theorem o_all : Op1 X (fun v => rAll X.K [v]) fAll := by
  intro S H x dx d ps Q s rx e k
  unfold fAll at e
  split at e
  · obtain ⟨l1, v1, q1, rfl, h1, r1⟩ := rx.lst s
    obtain ⟨bs, hb, rfl⟩ := Option.map_eq_some_iff.mp e
    exact ⟨l1, bs, rfl, by rw [← rp_bools r1 hb]; exact .inl (.inl h1), newV s (.bl _) k⟩
  · cases e
theorem o_any : Op1 X (fun v => rAny X.K [v]) fAny := by
  intro S H x dx d ps Q s rx e k
  unfold fAny at e
  split at e
  · obtain ⟨l1, v1, q1, rfl, h1, r1⟩ := rx.lst s
    obtain ⟨bs, hb, rfl⟩ := Option.map_eq_some_iff.mp e
    exact ⟨l1, bs, rfl, by rw [← rp_bools r1 hb]; exact .inl (.inl h1), newV s (.bl _) k⟩
  · cases e
theorem o_sum : Op1 X (fun v => rSum X.K [v]) fSum := by
  intro S H x dx d ps Q s rx e k
  unfold fSum at e
  split at e
  · obtain ⟨l1, v1, q1, rfl, h1, r1⟩ := rx.lst s
    obtain ⟨bs, hb, rfl⟩ := Option.map_eq_some_iff.mp e
    exact ⟨l1, bs, rfl, by rw [← rp_ints r1 hb]; exact .inl (.inl h1), newV s (.int _) k⟩
  · cases e
theorem rp_intmap {K : PySem.W.Frag} {S H : Hp} (l : List Int) : RpAll K S H (l.map V.int) (l.map D.int) [] ∧ shs (l.map D.int) = true := by
  induction l with
  | nil => exact ⟨.nil, rfl⟩
  | cons a l ih => exact ⟨.cons (.int a) ih.1, by simpa [shs, D.sh] using ih.2⟩
theorem o_list : Op1 X (fun v => (fun xs H Q => ∃ p ys, xs = [.ref p] ∧ (SqL X.K H p ys ∨ SqT X.K H p ys) ∧ ∀ l, H l = none → Q (.ref l) (upd H l (.lst ys)) : List V → Hp → VK → Prop) [v]) fList := by
  intro S H x dx d ps Q s rx e k
  unfold fList at e
  split at e
  · split at e
    · rename_i hs
      cases e
      obtain ⟨l1, v1, q1, rfl, h1, r1⟩ := rx.lst s
      exact ⟨l1, v1, rfl, .inl (.inl (.inl h1)), fun p hp => newL s r1 hs hp k⟩
    · cases e
  · split at e
    · rename_i hs
      cases e
      obtain ⟨l1, v1, q1, rfl, h1, r1⟩ := rx.tup s
      exact ⟨l1, v1, rfl, .inr h1, fun p hp => newL s r1 hs hp k⟩
    · cases e
  · cases e
    cases rx with | scr _ q =>
    exact ⟨_, _, rfl, .inl (sql_mono s q), fun p hp => newL s (rp_intmap (K := X.K) (S := S) (H := H) _).1 (rp_intmap (K := X.K) (S := S) (H := H) _).2 hp k⟩
  · cases e
theorem o_ord : Op1 X (fun v => (fun xs H Q => ∃ x : Str, xs = [.str x] ∧ x.length = 1 ∧ Q (.int (x.cps.getD 0 0 : Nat)) H : List V → Hp → VK → Prop) [v]) fOrd := by
  intro S H x dx d ps Q s rx e k
  unfold fOrd at e
  split at e
  · rename_i c
    cases e
    cases rx with | str _ ha =>
    exact ⟨_, rfl, rfl, newV s (v := .int (c : Nat)) (.int _) k⟩
  · cases e

/-! ### isinstance with a built-in class -/
def Ty.nm : Ty → String
  | .str => "str" | .int => "int" | .bool => "bool" | .list => "list" | .tuple => "tuple" | .dict => "dict"
theorem k_non (t : Ty) : kitB "NoneType" t.nm = some (isT t .non) := by cases t <;> decide +kernel
theorem k_bool (t : Ty) : kitB "bool" t.nm = some (isT t (.bl true)) := by cases t <;> decide +kernel
theorem k_int (t : Ty) : kitB "int" t.nm = some (isT t (.int 0)) := by cases t <;> decide +kernel
theorem k_str (t : Ty) : kitB "str" t.nm = some (isT t (.str [])) := by cases t <;> decide +kernel
theorem k_list (t : Ty) : kitB "list" t.nm = some (isT t (.lst true [])) := by cases t <;> decide +kernel
theorem k_tuple (t : Ty) : kitB "tuple" t.nm = some (isT t (.tup true [])) := by cases t <;> decide +kernel
theorem k_dict (t : Ty) : kitB "dict" t.nm = some (isT t (.dic true [] [])) := by cases t <;> decide +kernel
theorem o_isT (t : Ty) : Op1 X (fun v => rIsi X.K [v, .ty t.nm]) (fIsT t) := by
  intro S H x dx d ps Q s rx e k
  have fin : ∀ {v : V} {n : String} {b : Bool}, x = v → TyX X.K H v (.type n) → kitB n t.nm = some b → D.bl b = d → rIsi X.K [x, .ty t.nm] H Q := by
    intro v n b ex ty hk ed
    subst ex; subst ed
    exact ⟨_, _, _, _, b, rfl, .ty _, ty, kit_ty hk, newV s (.bl _) k⟩
  cases rx with
  | non => exact fin rfl (.base .non) (n := "NoneType") (b := isT t .non) ((k_non t).trans (by cases t <;> rfl)) (by simpa [fIsT] using e)
  | bl b => exact fin rfl (.base (.bl b)) (n := "bool") (b := isT t (.bl b)) ((k_bool t).trans (by cases t <;> rfl)) (by simpa [fIsT] using e)
  | int b => exact fin rfl (.base (.int b)) (n := "int") (b := isT t (.int b)) ((k_int t).trans (by cases t <;> rfl)) (by simpa [fIsT] using e)
  | str b hb => exact fin rfl (.base (.str _)) (n := "str") (b := isT t (.str b)) ((k_str t).trans (by cases t <;> rfl)) (by simpa [fIsT] using e)
  | scr ns q => simp [fIsT] at e
  | @dicS a kvs ks ds0 q k2 r z => exact fin rfl (.base (.dK (s _ _ q))) (n := "dict") (b := isT t (.dic false ks ds0)) ((k_dict t).trans (by cases t <;> rfl)) (by simpa [fIsT] using e)
  | @dicO a kvs ks ds0 ps q k2 r => exact fin rfl (.base (.dK q)) (n := "dict") (b := isT t (.dic true ks ds0)) ((k_dict t).trans (by cases t <;> rfl)) (by simpa [fIsT] using e)
  | lstS q r z => exact fin rfl (.base (.lst (s _ _ q))) (n := "list") (b := isT t (.lst false _)) ((k_list t).trans (by cases t <;> rfl)) (by simpa [fIsT] using e)
  | @lstO a vs ds0 ps q r => exact fin rfl (.base (.lst q)) (n := "list") (b := isT t (.lst true ds0)) ((k_list t).trans (by cases t <;> rfl)) (by simpa [fIsT] using e)
  | tupS q r z =>
    have q' := sqt_mono s q
    rcases q' with (q' | ⟨ob, q'⟩) | ⟨ob, its, n, q1, q2, _⟩
    · exact fin rfl (.base (.tup q')) (n := "tuple") (b := isT t (.tup false _)) ((k_tuple t).trans (by cases t <;> rfl)) (by simpa [fIsT] using e)
    · exact fin rfl (.fTuple q') (n := "tuple") (b := isT t (.tup false _)) ((k_tuple t).trans (by cases t <;> rfl)) (by simpa [fIsT] using e)
    · exact fin rfl (.kTuple q1 q2) (n := "tuple") (b := isT t (.tup false _)) ((k_tuple t).trans (by cases t <;> rfl)) (by simpa [fIsT] using e)
  | @tupO a vs ds0 ps q r => exact fin rfl (.base (.tup q)) (n := "tuple") (b := isT t (.tup true ds0)) ((k_tuple t).trans (by cases t <;> rfl)) (by simpa [fIsT] using e)
theorem de_isT (t : Ty) {x y : Str} {py : Pos} (ht : PE X b (tC (.ty t.nm))) (hg : Gl X "isinstance") (hm : X.mg "isinstance" = none) (ha : DO cl X W a f)
    (hs : starEach [a, b] X.env = (false, eval a X.env) :: starEach [b] X.env := by rfl) (hs2 : starEach [b] X.env = [(false, eval b X.env)] := by rfl) (hpl : (backTo pos (starEach [b] X.env)).any (·.1) = false := by rfl) : DE cl X W (.Call (.Name "isinstance" p) [a, b] [] pos) (e1 (fIsT t) f) :=
  de_1 (r := fun v => rIsi X.K [v, .ty t.nm]) (fun ta pa => pe_callB call_isi hg hm (by decide +kernel) (pa_cons pa (pa_cons ht pa_nil hs2) hs) (by decide) (by decide) hs hpl) (o_isT t) ha
end
end G


set_option maxHeartbeats 1000000
/-! Own layer, part 6: methods of texts, chains, slices, calls. -/
namespace G
open PySem L2
section
variable {cl : Cl} {X : Cx} {W : WX} {e a b c : Expr} {es : List Expr} {f g h : E} {fs : List E} {pos p apos : Pos}
/-! ### methods of texts -/
theorem de_m0 {id : String} {name : Str} {r : V → List V → Hp → VK → Prop} {F : D → Option D} (slot : Slot "str" name id) (ty : typeOf (.builtin id) = pure (.type "method_descriptor")) (rule : MtR X id r)
    (o : Op1 X (fun v H Q => (∃ a, v = .str a) ∧ r v [] H Q) F) (ha : DO cl X W a f)
    (hbase : attributeBase a name X.env (eval a X.env) = eval a X.env := by rfl) (hline : (apos.endLine == pos.line) = true := by rfl) : DE cl X W (.Call (.Attribute a name apos) [] [] pos) (e1 F f) :=
  de_1 (r := fun v H Q => (∃ a, v = .str a) ∧ r v [] H Q) (fun ta pa => pe_m0 slot ty rule pa hbase hline) o ha
theorem de_m1 {id : String} {name : Str} {r : V → List V → Hp → VK → Prop} {F : D → D → Option D} (slot : Slot "str" name id) (ty : typeOf (.builtin id) = pure (.type "method_descriptor")) (rule : MtR X id r)
    (o : Op2 X (fun v u => r v [u]) F) (ha : DO cl X W a f) (hb : DO cl X W b g)
    (hs : starEach [b] X.env = [(false, eval b X.env)] := by rfl) (hbase : attributeBase a name X.env (eval a X.env) = eval a X.env := by rfl) (hline : (apos.endLine == pos.line) = true := by rfl) : DE cl X W (.Call (.Attribute a name apos) [b] [] pos) (e2s F f g) := by
  obtain ⟨ta, pa, qa⟩ := ha.pf
  obtain ⟨tb, pb, qb⟩ := hb.pf
  refine ⟨_, pe_m1 slot ty rule pa pb hs hbase hline, fun σ ρ S H Q l s z => ?_⟩
  refine qa σ ρ S H _ l s ((post_bind z).imp ?_)
  rintro v H1 ⟨d, S1, qs, e, g1, rp, z1⟩
  cases hS : d.isS with
  | false => simp only [hS] at z1; exact z1.elim
  | true =>
    simp only [hS, if_true] at z1
    refine ⟨?_, ?_⟩
    · cases rp <;> simp [D.isS] at hS
      exact ⟨_, rfl⟩
    · refine qb σ ρ S1 H1 _ (l.mono g1) g1.sh ((post_bind z1).imp ?_)
      rintro u H2 ⟨d2, S2, rs, e2, g2, rp2, z2⟩
      cases k : F d d2 with
      | none => rw [k] at z2; exact z2.elim
      | some d' =>
        rw [k] at z2
        exact o S2 H2 v u d d2 d' qs rs Q g2.sh (rp.mono g2.ss g2.hh) rp2 k z2
theorem o_upper : Op1 X (fun v H Q => (∃ a, v = .str a) ∧ ((fun x xs H Q => ∃ a, x = .str a ∧ xs = [] ∧ a.length ≤ 5592405 ∧ Q (.str (Txt.upper a)) H) : V → List V → Hp → VK → Prop) v [] H Q) fUpper := by
  intro S H x dx d ps Q s rx e k
  unfold fUpper at e
  split at e
  · split at e
    · rename_i z h
      simp only [Bool.and_eq_true, List.all_eq_true, decide_eq_true_eq] at h
      cases e
      cases rx with | str _ ha =>
      refine ⟨⟨_, rfl⟩, _, rfl, rfl, by rw [tS_len]; exact h.2, ?_⟩
      rw [PyProof.Rows.upper_ascii (x := tS z) h.1]
      have e : (⟨(tS z).cps.map PyProof.Rows.up1⟩ : Str) = tS (z.map upC) := TL.ext_tl (by
        simp only [tS, TL.tl, List.map_toArray]
        refine List.map_congr_left fun c hc => ?_
        unfold PyProof.Rows.up1 upC
        rfl)
      rw [e]
      exact newV s (.str _ fun c hc => by
        obtain ⟨c0, h0, rfl⟩ := List.mem_map.mp hc
        have := h.1 c0 h0
        unfold upC
        split <;> omega) k
    · cases e
  · cases e
theorem o_lower : Op1 X (fun v H Q => (∃ a, v = .str a) ∧ ((fun x xs H Q => ∃ a, x = .str a ∧ xs = [] ∧ a.length ≤ 5592405 ∧ Q (.str (Txt.lower a)) H) : V → List V → Hp → VK → Prop) v [] H Q) fLower := by
  intro S H x dx d ps Q s rx e k
  unfold fLower at e
  split at e
  · split at e
    · rename_i z h
      simp only [Bool.and_eq_true, List.all_eq_true, decide_eq_true_eq] at h
      cases e
      cases rx with | str _ ha =>
      refine ⟨⟨_, rfl⟩, _, rfl, rfl, by rw [tS_len]; exact h.2, ?_⟩
      rw [PyProof.Rows.lower_ascii (x := tS z) h.1]
      have e : (⟨(tS z).cps.map PyProof.Rows.lo1⟩ : Str) = tS (z.map loC) := TL.ext_tl (by
        simp only [tS, TL.tl, List.map_toArray]
        refine List.map_congr_left fun c hc => ?_
        unfold PyProof.Rows.lo1 loC
        rfl)
      rw [e]
      exact newV s (.str _ fun c hc => by
        obtain ⟨c0, h0, rfl⟩ := List.mem_map.mp hc
        have := h.1 c0 h0
        unfold loC
        split <;> omega) k
    · cases e
  · cases e
theorem strs_map (l : List Tx) (h : ∀ b ∈ l, ∀ c ∈ b, c < 0x110000) {K : PySem.W.Frag} {S H : Hp} : RpAll K S H ((l.map tS).map V.str) (l.map D.str) [] ∧ shs (l.map D.str) = true := by
  induction l with
  | nil => exact ⟨.nil, rfl⟩
  | cons a l ih =>
    obtain ⟨h1, h2⟩ := ih fun b hb => h b (List.mem_cons_of_mem _ hb)
    exact ⟨.cons (.str a (h a (List.mem_cons_self ..))) h1, by simpa [shs, D.sh] using h2⟩
theorem splT_eq (S : Tx) : ∀ (k : Nat) (acc l : Tx), splT S k acc l = TL.spl S k acc l
  | k, acc, [] => by cases k <;> rfl
  | 0, acc, c :: r => by
    show (if preT S (c :: r) = true then acc :: splT S (S.length - 1) [] r else splT S 0 (acc ++ [c]) r) = (if TL.pre S (c :: r) = true then acc :: TL.spl S (S.length - 1) [] r else TL.spl S 0 (acc ++ [c]) r)
    rw [splT_eq S _ [] r, splT_eq S 0 _ r, pre_eq]
  | k + 1, acc, _ :: r => splT_eq S k acc r
theorem splT_mem (S : Tx) : ∀ (l : Tx) (k : Nat) (acc : Tx) (b : Tx), b ∈ splT S k acc l → ∀ c ∈ b, c ∈ acc ∨ c ∈ l
  | [], k, acc, b, hb, c, hc => by
    have : b = acc := by cases k <;> simpa [splT] using hb
    subst this; exact .inl hc
  | x :: r, 0, acc, b, hb, c, hc => by
    unfold splT at hb
    split at hb
    · rcases List.mem_cons.mp hb with rfl | hb
      · exact .inl hc
      · rcases splT_mem S r _ [] b hb c hc with h | h
        · cases h
        · exact .inr (List.mem_cons_of_mem _ h)
    · rcases splT_mem S r 0 (acc ++ [x]) b hb c hc with h | h
      · rcases List.mem_append.mp h with h | h
        · exact .inl h
        · have : c = x := by simpa using h
          subst this
          exact .inr (List.mem_cons_self ..)
      · exact .inr (List.mem_cons_of_mem _ h)
  | x :: r, k + 1, acc, b, hb, c, hc => by
    rcases splT_mem S r k acc b hb c hc with h | h
    · exact .inl h
    · exact .inr (List.mem_cons_of_mem _ h)
theorem o_split : Op2 X (fun v u => ((fun x xs H Q => ∃ a b : Str, x = .str a ∧ xs = [.str b] ∧ (b.length == 0) = false ∧ a.length + 2 ≤ sizeLine ∧ rNewStrs (Txt.split a b) H Q) : V → List V → Hp → VK → Prop) v [u]) fSplit := by
  intro S H x y dx dy d ps qs Q s rx ry e k
  unfold fSplit at e
  split at e
  · split at e
    · rename_i za zb h
      simp only [Bool.and_eq_true, decide_eq_true_eq] at h
      cases e
      cases rx with | str _ ha =>
      cases ry with | str _ hb =>
      refine ⟨_, _, rfl, rfl, ?_, by rw [tS_len, line_eq]; exact h.2, fun p hp => ?_⟩
      · rw [tS_len]
        cases zb with
        | nil => exact absurd rfl h.1.1
        | cons _ _ => rfl
      · have e1 : Txt.split (tS za) (tS zb) = (splT zb 0 [] za).map tS := by
          refine TL.map_tl_inj ?_
          rw [TL.split_spl _ _ (by simpa [tS, TL.tl] using h.1.1) (TL.kind_ok (by simpa [tS] using h.1.2)), List.map_map]
          have : (TL.tl ∘ tS) = id := by funext z; simp [tS, TL.tl]
          rw [this, List.map_id, splT_eq]
          simp [tS, TL.tl]
        rw [e1]
        have hm := strs_map (splT zb 0 [] za) (fun b hb c hc => by
          rcases splT_mem zb za 0 [] b hb c hc with z | z
          · cases z
          · exact ha c z) (K := X.K) (S := S) (H := H)
        exact newL s hm.1 hm.2 hp k
    · cases e
  · cases e
theorem joinT_eq (S : Tx) : ∀ l : List Tx, joinT S l = TL.joinL S l
  | [] => rfl
  | [_] => rfl
  | p :: q :: r => by
    show p ++ (S ++ joinT S (q :: r)) = p ++ (S ++ TL.joinL S (q :: r))
    rw [joinT_eq S (q :: r)]
theorem joinT_mem (S : Tx) : ∀ (l : List Tx) (c : Nat), c ∈ joinT S l → c ∈ S ∨ ∃ p ∈ l, c ∈ p
  | [], c, h => by simp [joinT] at h
  | [p], c, h => .inr ⟨p, by simp, h⟩
  | p :: q :: r, c, h => by
    rcases List.mem_append.mp h with h | h
    · exact .inr ⟨p, by simp, h⟩
    · rcases List.mem_append.mp h with h | h
      · exact .inl h
      · rcases joinT_mem S (q :: r) c h with h | ⟨p', hp, h⟩
        · exact .inl h
        · exact .inr ⟨p', List.mem_cons_of_mem _ hp, h⟩
theorem o_join : Op2 X (fun v u => ((fun x xs H Q => ∃ a p, ∃ ys : List Str, x = .str a ∧ xs = [.ref p] ∧ (SqL X.K H p (ys.map V.str) ∨ SqT X.K H p (ys.map V.str)) ∧
    (ys.map (·.length)).sum + ys.length * a.length ≤ 16777216 ∧ Q (.str (Txt.join a ys)) H) : V → List V → Hp → VK → Prop) v [u]) fJoin := by
  intro S H x y dx dy d ps qs Q s rx ry e k
  have fin : ∀ {za : Tx} {ys : List Tx} {pa : Addr}, x = .str (tS za) → y = .ref pa → (∀ c ∈ za, c < 0x110000) → (∀ b ∈ ys, ∀ c ∈ b, c < 0x110000) → (SqL X.K H pa ((ys.map tS).map V.str) ∨ SqT X.K H pa ((ys.map tS).map V.str)) →
      (ys.map List.length).sum + ys.length * za.length ≤ LINE → D.str (joinT za ys) = d → ∃ a p, ∃ ys : List Str, x = .str a ∧ [y] = [V.ref p] ∧ (SqL X.K H p (ys.map V.str) ∨ SqT X.K H p (ys.map V.str)) ∧
    (ys.map (·.length)).sum + ys.length * a.length ≤ 16777216 ∧ Q (.str (Txt.join a ys)) H := by
    intro za ys pa ex ey h1 h2 h3 h4 h5
    subst ex ey h5
    refine ⟨_, pa, ys.map tS, rfl, rfl, h3, ?_, ?_⟩
    · rw [List.map_map, List.length_map, tS_len]
      have : ((fun x : Str => x.length) ∘ tS) = List.length := by funext z; exact tS_len z
      rw [this]; exact h4
    · have e : Txt.join (tS za) (ys.map tS) = tS (joinT za ys) := TL.ext_tl (by
        rw [TL.join_eq, TL.tl_join, List.map_map]
        have : (TL.tl ∘ tS) = id := by funext z; simp [tS, TL.tl]
        rw [this, List.map_id, joinT_eq]
        simp [tS, TL.tl])
      rw [e]
      exact newV s (.str _ fun c hc => (joinT_mem za ys c hc).elim (h1 c) (fun ⟨p, hp, hc⟩ => h2 p hp c hc)) k
  unfold fJoin at e
  split at e
  · cases rx with | str _ ha =>
    obtain ⟨ys, hy, e⟩ := Option.bind_eq_some_iff.mp e
    split at e
    · rename_i hl
      cases e
      obtain ⟨l1, v1, q1, rfl, h1, r1⟩ := ry.lst s
      obtain ⟨e1, e2⟩ := rp_strs r1 hy
      subst e1
      exact fin rfl rfl ha e2 (.inl (.inl (.inl h1))) hl rfl
    · cases e
  · cases rx with | str _ ha =>
    obtain ⟨ys, hy, e⟩ := Option.bind_eq_some_iff.mp e
    split at e
    · rename_i hl
      cases e
      obtain ⟨l1, v1, q1, rfl, h1, r1⟩ := ry.tup s
      obtain ⟨e1, e2⟩ := rp_strs r1 hy
      subst e1
      exact fin rfl rfl ha e2 (.inr h1) hl rfl
    · cases e
  · cases e
theorem sub_at (a b : Tx) (i : Nat) : Builtin.Str.subAt (tS b) (tS a) i = preT a (b.drop i) := by
  unfold Builtin.Str.subAt preT
  rw [tS_len]
  have h : ((tS b).cps.extract i (i + a.length) = (tS a).cps) ↔ ((b.drop i).take a.length = a) := by
    show (b.toArray.extract i (i + a.length)) = a.toArray ↔ _
    rw [← Array.toList_inj]
    simp only [List.extract_toArray, List.extract_eq_take_drop]
    rw [show i + a.length - i = a.length by omega]
  by_cases k : (b.drop i).take a.length = a
  · rw [beq_iff_eq.mpr k, beq_iff_eq.mpr (h.mpr k)]
  · rw [beq_eq_false_iff_ne.mpr k, beq_eq_false_iff_ne.mpr fun z => k (h.mp z)]
theorem starts_eq (a b : Tx) : Txt.startswith (tS a) (tS b) = preT b a := by
  unfold Txt.startswith
  rw [sub_at, List.drop_zero, tS_len, tS_len]
  cases h : preT b a with
  | false => rw [Bool.and_false]
  | true =>
    have : a.take b.length = b := by simpa [preT] using h
    have := congrArg List.length this
    rw [List.length_take] at this
    rw [Bool.and_true, decide_eq_true_eq]; omega
theorem o_starts : Op2 X (fun v u => ((fun x xs H Q => ∃ a b, x = .str a ∧ xs = [.str b] ∧ Q (.bl (Txt.startswith a b)) H) : V → List V → Hp → VK → Prop) v [u]) fStarts := by
  intro S H x y dx dy d ps qs Q s rx ry e k
  unfold fStarts at e
  split at e
  · cases e
    cases rx with | str _ ha =>
    cases ry with | str _ hb =>
    exact ⟨_, _, rfl, rfl, by rw [starts_eq]; exact newV s (.bl _) k⟩
  · cases e
theorem ends_eq (a b : Tx) : Txt.endswith (tS a) (tS b) = preT b.reverse a.reverse := by
  unfold Txt.endswith
  rw [sub_at, tS_len, tS_len]
  unfold preT
  rw [List.length_reverse, List.take_reverse]
  by_cases hl : b.length ≤ a.length
  · rw [decide_eq_true (by omega), Bool.true_and, List.take_of_length_le (by rw [List.length_drop]; omega)]
    by_cases k : a.drop (a.length - b.length) = b
    · rw [k]; simp
    · rw [beq_eq_false_iff_ne.mpr k, beq_eq_false_iff_ne.mpr fun z => k (by simpa using congrArg List.reverse z)]
  · rw [decide_eq_false (by omega), Bool.false_and]
    symm
    rw [beq_eq_false_iff_ne]
    intro z
    have := congrArg List.length z
    rw [List.length_reverse, List.length_reverse, List.length_drop] at this
    omega
theorem o_ends : Op2 X (fun v u => ((fun x xs H Q => ∃ a b, x = .str a ∧ xs = [.str b] ∧ Q (.bl (Txt.endswith a b)) H) : V → List V → Hp → VK → Prop) v [u]) fEnds := by
  intro S H x y dx dy d ps qs Q s rx ry e k
  unfold fEnds at e
  split at e
  · cases e
    cases rx with | str _ ha =>
    cases ry with | str _ hb =>
    exact ⟨_, _, rfl, rfl, by rw [ends_eq]; exact newV s (.bl _) k⟩
  · cases e
end
end G


set_option maxHeartbeats 1000000
/-! Own layer, part 7: chains, slices, own calls, what is walked, comprehensions. -/
namespace G
open PySem L2
section
variable {cl : Cl} {X : Cx} {W : WX} {e a b c : Expr} {es : List Expr} {f g h : E} {fs : List E} {pos p p2 : Pos}
theorem de_chain {op op' : CmpOp} {r r' : R2} {F F' : D → D → Option D} (ho : OpR X (compareOp op) r) (ho' : OpR X (compareOp op') r') (o : Op2 X r F) (o' : Op2 X r' F') (ha : DO cl X W a f) (hb : DO cl X W b g) (hc : DO cl X W c h)
    (p : ∀ ta tb tc, PE X a ta → PE X b tb → PE X c tc → PE X e (tChain r r' ta tb tc)) : DE cl X W e (eChain F F' f g h) := by
  obtain ⟨ta, pa, qa⟩ := ha.pf
  obtain ⟨tb, pb, qb⟩ := hb.pf
  obtain ⟨tc, pc, qc⟩ := hc.pf
  refine ⟨_, p ta tb tc pa pb pc, fun σ ρ S H Q l s z => ?_⟩
  refine qa σ ρ S H _ l s ((post_bind z).imp ?_)
  rintro v H1 ⟨d, S1, qs, e, g1, rp, z1⟩
  refine qb σ ρ S1 H1 _ (l.mono g1) g1.sh ((post_bind z1).imp ?_)
  rintro u H2 ⟨d2, S2, rs, e2, g2, rp2, z2⟩
  cases k : F d d2 with
  | none => rw [k] at z2; exact z2.elim
  | some d' =>
    rw [k] at z2
    refine o S2 H2 v u d d2 d' qs rs _ g2.sh (rp.mono g2.ss g2.hh) rp2 k ?_
    intro w S3 H3 ps g3 f3 rp3
    have z3 := PostE.on g3 z2
    cases d' with
    | bl kk =>
      cases rp3
      refine ⟨kk, rfl, ?_⟩
      cases kk with
      | true =>
        refine qc σ ρ S3 H3 _ ((l.mono g1).mono (g2.trans g3)) g3.sh ((post_bind (show PostE cl X.K W σ S3 H3 ((h ρ).bind fun z => Res.of (F' d2 z)) Q from z3)).imp ?_)
        rintro w H4 ⟨d4, S4, ts, e4, g4, rp4, z4⟩
        cases k4 : F' d2 d4 with
        | none => rw [k4] at z4; exact z4.elim
        | some d5 =>
          rw [k4] at z4
          exact o' S4 H4 u w d2 d4 d5 rs ts Q g4.sh (rp2.mono (g3.trans g4).ss (g3.trans g4).hh) rp4 k4 z4
      | false => exact z3 _ S3 H3 [] (Grow.refl g3.sh) Fresh.nil (.bl false)
    | _ => exact z3.elim
end

section
variable {cl : Cl} {X : Cx} {W : WX} {e a b c lo hi : Expr} {es : List Expr} {f g h : E} {fs : List E} {pos p p2 : Pos}
/-! slices -/
theorem de_sl (ha : DO cl X W a f) : DE cl X W (.Subscript a (.Slice none none none p2) pos) (eSl f) := by
  obtain ⟨ta, pa, qa⟩ := ha.pf
  refine ⟨_, pe_slice sl_D pa po_none po_none, fun σ ρ S H Q l s z => ?_⟩
  refine qa σ ρ S H _ l s ((post_bind z).imp ?_)
  rintro v H1 ⟨d, S1, qs, e, g1, rp, z1⟩
  cases k : cutD d none none with
  | none => rw [k] at z1; exact z1.elim
  | some d' => rw [k] at z1; exact o_sl S1 H1 v d d' none none qs Q g1.sh rp k z1
theorem de_slLo (ha : DO cl X W a f) (hl : DO cl X W lo g) : DE cl X W (.Subscript a (.Slice (some lo) none none p2) pos) (eSlLo f g) := by
  obtain ⟨ta, pa, qa⟩ := ha.pf
  obtain ⟨tb, pb, qb⟩ := hl.pf
  refine ⟨_, pe_slice sl_D pa (po_some pb) po_none, fun σ ρ S H Q l s z => ?_⟩
  refine qa σ ρ S H _ l s ((post_bind z).imp ?_)
  rintro v H1 ⟨d, S1, qs, e, g1, rp, z1⟩
  refine qb σ ρ S1 H1 _ (l.mono g1) g1.sh ((post_bind z1).imp ?_)
  rintro u H2 ⟨d2, S2, rs, e2, g2, rp2, z2⟩
  cases d2 with
  | int i =>
    cases rp2
    refine ⟨i, rfl, ?_⟩
    cases k : cutD d (some i) none with
    | none => simp only [k] at z2; exact z2.elim
    | some d' => simp only [k] at z2; exact o_sl S2 H2 v d d' (some i) none qs Q g2.sh (rp.mono g2.ss g2.hh) k z2
  | _ => exact z2.elim
theorem de_slHi (ha : DO cl X W a f) (hl : DO cl X W hi g) : DE cl X W (.Subscript a (.Slice none (some hi) none p2) pos) (eSlHi f g) := by
  obtain ⟨ta, pa, qa⟩ := ha.pf
  obtain ⟨tb, pb, qb⟩ := hl.pf
  refine ⟨_, pe_slice sl_D pa po_none (po_some pb), fun σ ρ S H Q l s z => ?_⟩
  refine qa σ ρ S H _ l s ((post_bind z).imp ?_)
  rintro v H1 ⟨d, S1, qs, e, g1, rp, z1⟩
  refine qb σ ρ S1 H1 _ (l.mono g1) g1.sh ((post_bind z1).imp ?_)
  rintro u H2 ⟨d2, S2, rs, e2, g2, rp2, z2⟩
  cases d2 with
  | int i =>
    cases rp2
    refine ⟨i, rfl, ?_⟩
    cases k : cutD d none (some i) with
    | none => simp only [k] at z2; exact z2.elim
    | some d' => simp only [k] at z2; exact o_sl S2 H2 v d d' none (some i) qs Q g2.sh (rp.mono g2.ss g2.hh) k z2
  | _ => exact z2.elim
theorem de_slLH (ha : DO cl X W a f) (hl : DO cl X W lo g) (hh : DO cl X W hi h) : DE cl X W (.Subscript a (.Slice (some lo) (some hi) none p2) pos) (eSlLH f g h) := by
  obtain ⟨ta, pa, qa⟩ := ha.pf
  obtain ⟨tb, pb, qb⟩ := hl.pf
  obtain ⟨tc, pc, qc⟩ := hh.pf
  refine ⟨_, pe_slice sl_D pa (po_some pb) (po_some pc), fun σ ρ S H Q l s z => ?_⟩
  refine qa σ ρ S H _ l s ((post_bind z).imp ?_)
  rintro v H1 ⟨d, S1, qs, e, g1, rp, z1⟩
  refine qb σ ρ S1 H1 _ (l.mono g1) g1.sh ((post_bind z1).imp ?_)
  rintro u H2 ⟨d2, S2, rs, e2, g2, rp2, z2⟩
  cases d2 with
  | int i =>
    cases rp2
    refine ⟨i, rfl, ?_⟩
    refine qc σ ρ S2 H2 _ ((l.mono g1).mono g2) g2.sh ((post_bind z2).imp ?_)
    rintro w H3 ⟨d3, S3, ts, e3, g3, rp3, z3⟩
    cases d3 with
    | int j =>
      cases rp3
      refine ⟨j, rfl, ?_⟩
      cases k : cutD d (some i) (some j) with
      | none => simp only [k] at z3; exact z3.elim
      | some d' => simp only [k] at z3; exact o_sl S3 H3 v d d' (some i) (some j) qs Q g3.sh (rp.mono (g2.trans g3).ss (g2.trans g3).hh) k z3
    | _ => exact z3.elim
  | _ => exact z2.elim

/-! ### own defs -/
/-- what a def promises -/
def spD (cl : Cl) (K : PySem.W.Frag) (n : Nat) (den : List D → Res D) : Sp := fun vs H Q E => ∃ S ds, Same S H ∧ RpAll K S H vs ds [] ∧ shs ds = true ∧ ds.length = n ∧ match den ds with
  | .no => False
  | .ok d => ∀ v S' H' qs, Grow S H S' H' → Fresh H S' qs → Rp K S' H' v d qs → Q v H'
  | .ex c fs => ∀ S' H' cls dd, Grow S H S' H' → XR cl H' c fs cls dd → E cls dd H'
theorem eArgs_len {ρ : Env} : ∀ {fs : List E} {ds : List D}, eArgs fs ρ = .ok ds → ds.length = fs.length
  | [], ds, k => by cases k; rfl
  | f :: fs, ds, k => by
    unfold eArgs at k
    cases k1 : f ρ <;> simp [k1, Res.bind] at k
    cases k2 : eArgs fs ρ <;> simp [k2] at k
    subst k
    simp [eArgs_len k2]
theorem frzs_len (ds : List D) : (frzs ds).length = ds.length := by rw [frzs_map, List.length_map]
theorem de_call {k n : Nat} {fA : Addr} {fd : FuncData} {ps : List Str} {x : Str} {den : List D → Res D} (F : FnOk X.prog X.w X.K X.mg X.base (L2.CX X.prog X.w) k fA fd ps (spD cl X.K n den)) (hr : Room k X.A) (hg : Gl X x) (hm : X.mg x = some (.ref fA)) (hk : PySem.W.keepIn X.K (.ref fA) = true) (hb : Binds X.K fd ps [])
    (tk : Takes X W) (ha : DA cl X W (e :: es) fs) (hn : fs.length = n := by rfl) (hdb : (x == ("__debug__" : Str)) = false := by decide) (he : starEach (e :: es) X.env = (false, eval e X.env) :: starEach es X.env := by rfl) (hpl : (backTo pos (starEach es X.env)).any (·.1) = false := by rfl) :
    DE cl X W (.Call (.Name x p) (e :: es) [] pos) (eCall den fs) := by
  obtain ⟨t, pt, q⟩ := ha.pf
  refine ⟨_, pe_callS F hr hg hm hk hb (fun σ => passAt tk σ) pt hdb he hpl, fun σ ρ S H Q l s z => q σ ρ S H _ l s ?_⟩
  have z0 := post_args z
  cases ka : eArgs fs ρ with
  | no => rw [ka] at z0; exact z0
  | ex c fs => rw [ka] at z0; exact z0
  | ok ds =>
    rw [ka] at z0
    intro vs S1 H1 qs g1 ra
    obtain ⟨ds', S1', qs', e, g1', ra', z1⟩ := z0 vs S1 H1 qs g1 ra
    cases e
    -- the args are shared for the callee
    refine ⟨fun a => match S1' a with | some o => some o | none => if a ∈ qs' then H1 a else none, frzs ds, ?_, ?_, frzs_shs ds, by rw [frzs_len, eArgs_len ka, hn], ?_⟩
    · intro b o hb
      cases hS : S1' b with
      | some u => simp only [hS] at hb; cases hb; exact g1'.sh b _ hS
      | none =>
        simp only [hS] at hb
        by_cases hq : b ∈ qs'
        · simpa only [hq, if_true] using hb
        · simp only [hq, if_false] at hb; cases hb
    · refine ra'.frz (fun b o hb => by simp only [hb]) (fun b hb o ho => ?_) H1
      cases hS : S1' b with
      | some u =>
        have := g1'.sh b u hS
        rw [ho] at this; cases this
        rfl
      | none => simp only [hb, if_true]; exact ho
    · cases kd : den (frzs ds) with
      | no => simp only [kd, Res.bind] at z1; exact z1
      | ex c fs' =>
        simp only [kd, Res.bind] at z1
        intro S' H' cls dd g x
        exact z1 S1' H' cls dd ⟨g.hh, Same.refl _, g1'.sh.trans g.hh, fun a o h1 h2 => by rw [h1] at h2; cases h2⟩ x
      | ok r =>
        simp only [kd, Res.bind] at z1
        cases ho : (r.ow || shs ds) with
        | false => simp only [ho] at z1; exact z1.elim
        | true =>
          simp only [ho, if_true] at z1
          intro v S' H' qs2 g f rp
          cases hw : r.ow with
          | true =>
            refine z1 v S1' H' qs2 ⟨g.hh, Same.refl _, g1'.sh.trans g.hh, fun a o h1 h2 => by rw [h1] at h2; cases h2⟩ ⟨f.1, fun q hq => ⟨(f.2 q hq).1, none_back g1'.sh (f.2 q hq).1⟩⟩ (rp.ow S1' hw)
          | false =>
            rw [hw, Bool.false_or] at ho
            have e0 := (ra'.sh ho).1
            subst e0
            have eS : (fun a => match S1' a with | some o => some o | none => if a ∈ ([] : List Addr) then H1 a else none) = S1' := by
              funext a
              cases S1' a <;> simp
            rw [eS] at g
            exact z1 v S' H' qs2 g f rp
theorem de_call0 {k : Nat} {fA : Addr} {fd : FuncData} {x : Str} {den : List D → Res D} (F : FnOk X.prog X.w X.K X.mg X.base (L2.CX X.prog X.w) k fA fd [] (spD cl X.K 0 den)) (hr : Room k X.A) (hg : Gl X x) (hm : X.mg x = some (.ref fA)) (hk : PySem.W.keepIn X.K (.ref fA) = true) (hb : Binds X.K fd [] [])
    (hdb : (x == ("__debug__" : Str)) = false := by decide) : DE cl X W (.Call (.Name x p) [] [] pos) (eCall0 den) := by
  refine ⟨_, pe_call0 F hr hg hm hk hb .nil passL hdb, fun σ ρ S H Q l s z => ?_⟩
  refine ⟨S, [], s, .nil, rfl, rfl, ?_⟩
  unfold eCall0 at z
  cases kd : den [] with
  | no => rw [kd] at z; exact z
  | ex c fs => rw [kd] at z; exact z.elim
  | ok d => rw [kd] at z; exact z
end
end G


set_option maxHeartbeats 1000000
/-! Own layer, part 8: what is walked; comprehensions. -/
namespace G
open PySem L2
def PostI (shr : Bool) (cl : Cl) (K : PySem.W.Frag) (W : WX) (σ : St) (S H : Hp) (r : Res (List D)) (R : It → Hp → Prop) : Prop := match r with
  | .no => False
  | .ok ds => ∀ (J : It) (S' H' : Hp) (G : Hp → Prop) (Y : Nat → Hp → V → Hp → Prop), Grow S H S' H' → Walk J ds.length G Y → (∀ H2, Same (if shr then S' else H') H2 → G H2) →
      (∀ i H2 x H3 S2 d, Same (if shr then S' else H') H2 → Same S' S2 → Same S2 H2 → ds[i]? = some d → Y i H2 x H3 → Same H2 H3 ∧ ∃ qs, Rp K S2 H3 x d qs) → R J H'
  | .ex c fs => ∀ S' H' cls dd, Grow S H S' H' → XR cl H' c fs cls dd → W cls dd σ H'
structure DI (shr : Bool) (cl : Cl) (X : Cx) (W : WX) (tg it : Expr) (f : I) : Prop where
  pf : ∃ wi : TI, PI X tg it wi ∧ ∀ (σ : St) (ρ : Env) (S H : Hp) (R : It → Hp → Prop), Look X.K S H σ ρ → Same S H → PostI shr cl X.K W σ S H (f ρ) R → wi σ H R

section
variable {cl : Cl} {K : PySem.W.Frag} {W : WX} {σ : St} {S H S1 H1 : Hp} {r : Res D} {shr : Bool} {R : It → Hp → Prop} {rs : Res (List D)}
theorem PostI.on (g : Grow S H S1 H1) (h : PostI shr cl K W σ S H rs R) : PostI shr cl K W σ S1 H1 rs R := by
  cases rs with
  | no => exact h
  | ok ds => exact fun J S' H' G Y g' => h J S' H' G Y (g.trans g')
  | ex c fs => exact fun S' H' cls dd g' x => h S' H' cls dd (g.trans g') x
theorem post_bindI {g : D → Res (List D)} (h : PostI shr cl K W σ S H (r.bind g) R) :
    PostO cl K W σ S H r (fun v H1 => ∃ d S1 qs, r = .ok d ∧ Grow S H S1 H1 ∧ Rp K S1 H1 v d qs ∧ PostI shr cl K W σ S1 H1 (g d) R) := by
  cases r with
  | no => exact h
  | ok d => exact fun v S' H' qs g' rp => ⟨d, S', qs, rfl, g', rp, PostI.on g' h⟩
  | ex c fs => exact h
end
section
variable {cl : Cl} {X : Cx} {W : WX} {tg e a b c : Expr} {es : List Expr} {f g h : E} {fs : List E} {pos p : Pos}
theorem di_list (ha : DO cl X W a f) : DI false cl X W tg a (iLst f) := by
  obtain ⟨ta, pa, qa⟩ := ha.pf
  refine ⟨_, pi_list pa, fun σ ρ S H R l s z => ?_⟩
  refine qa σ ρ S H _ l s ((post_bindI z).imp ?_)
  rintro v H1 ⟨d, S1, qs, e, g1, rp, z1⟩
  cases d with
  | lst o xs =>
    obtain ⟨l1, v1, q1, rfl, h1, r1⟩ := rp.lst g1.sh
    refine ⟨l1, rfl, ⟨v1, .inl (.inl h1)⟩, z1 _ S1 H1 (fun H => SqL X.K H l1 v1) (YAt v1) (Grow.refl g1.sh) (by rw [← r1.length]; exact walk_list) (fun H2 h2 => .inl (.inl (h2 _ _ h1))) ?_⟩
    rintro i H2 x H3 S2 d s2 s3 s4 hd ⟨rfl, hx⟩
    obtain ⟨v, rs, hv, rv, _⟩ := r1.get hd
    rw [hx] at hv; cases hv
    exact ⟨Same.refl _, rs, rv.mono s3 s2⟩
  | scr ns =>
    cases rp with | scr _ q =>
    refine ⟨_, rfl, ⟨_, sql_mono g1.sh q⟩, z1 _ S1 H1 (fun H => SqL X.K H _ (ns.map V.int)) (YAt (ns.map V.int)) (Grow.refl g1.sh) ?_ (fun H2 h2 => sql_mono h2 (sql_mono g1.sh q)) ?_⟩
    · have : (ns.map D.int).length = (ns.map V.int).length := by rw [List.length_map, List.length_map]
      rw [this]; exact walk_list
    · rintro i H2 x H3 S2 d s2 s3 s4 hd ⟨rfl, hx⟩
      obtain ⟨v, rs, hv, rv, _⟩ := (rp_intmap (K := X.K) (S := S2) (H := H3) ns).1.get hd
      rw [hx] at hv; cases hv
      exact ⟨Same.refl _, rs, rv⟩
  | _ => exact z1.elim
theorem di_tup (ha : DO cl X W a f) : DI false cl X W tg a (iTup f) := by
  obtain ⟨ta, pa, qa⟩ := ha.pf
  refine ⟨_, pi_tup pa, fun σ ρ S H R l s z => ?_⟩
  refine qa σ ρ S H _ l s ((post_bindI z).imp ?_)
  rintro v H1 ⟨d, S1, qs, e, g1, rp, z1⟩
  cases d with
  | tup o xs =>
    obtain ⟨l1, v1, q1, rfl, h1, r1⟩ := rp.tup g1.sh
    refine ⟨l1, rfl, ⟨v1, h1⟩, z1 _ S1 H1 (fun H => SqT X.K H l1 v1) (YAt v1) (Grow.refl g1.sh) (by rw [← r1.length]; exact walk_tup) (fun H2 h2 => sqt_mono h2 h1) ?_⟩
    rintro i H2 x H3 S2 d s2 s3 s4 hd ⟨rfl, hx⟩
    obtain ⟨v, rs, hv, rv, _⟩ := r1.get hd
    rw [hx] at hv; cases hv
    exact ⟨Same.refl _, rs, rv.mono s3 s2⟩
  | _ => exact z1.elim
theorem di_listS (ha : DO cl X W a f) : DI true cl X W tg a (iLstS f) := by
  obtain ⟨ta, pa, qa⟩ := ha.pf
  refine ⟨_, pi_list pa, fun σ ρ S H R l s z => ?_⟩
  refine qa σ ρ S H _ l s ((post_bindI z).imp ?_)
  rintro v H1 ⟨d, S1, qs, e, g1, rp, z1⟩
  cases d with
  | lst o xs =>
    cases o with
    | true => exact z1.elim
    | false =>
      cases rp with | lstS q r1 zz =>
      rename_i l1 v1
      refine ⟨l1, rfl, ⟨v1, .inl (.inl (g1.sh _ _ q))⟩, z1 _ S1 H1 (fun H => SqL X.K H l1 v1) (YAt v1) (Grow.refl g1.sh) (by rw [← r1.length]; exact walk_list) (fun H2 h2 => .inl (.inl (h2 _ _ q))) ?_⟩
      rintro i H2 x H3 S2 d s2 s3 s4 hd ⟨rfl, hx⟩
      obtain ⟨v, rs, hv, rv, _⟩ := r1.get hd
      rw [hx] at hv; cases hv
      have hsd : d.sh = true := by
        rw [shs_all, List.all_eq_true] at zz
        exact zz d (List.mem_of_getElem? hd)
      exact ⟨Same.refl _, [], ((rv.sh hsd).2 H3).mono s3 (Same.refl _)⟩
  | scr ns =>
    cases rp with | scr _ q =>
    refine ⟨_, rfl, ⟨_, sql_mono g1.sh q⟩, z1 _ S1 H1 (fun H => SqL X.K H _ (ns.map V.int)) (YAt (ns.map V.int)) (Grow.refl g1.sh) ?_ (fun H2 h2 => sql_mono h2 q) ?_⟩
    · have : (ns.map D.int).length = (ns.map V.int).length := by rw [List.length_map, List.length_map]
      rw [this]; exact walk_list
    · rintro i H2 x H3 S2 d s2 s3 s4 hd ⟨rfl, hx⟩
      obtain ⟨v, rs, hv, rv, _⟩ := (rp_intmap (K := X.K) (S := S2) (H := H3) ns).1.get hd
      rw [hx] at hv; cases hv
      exact ⟨Same.refl _, rs, rv⟩
  | _ => exact z1.elim
theorem di_tupS (ha : DO cl X W a f) : DI true cl X W tg a (iTupS f) := by
  obtain ⟨ta, pa, qa⟩ := ha.pf
  refine ⟨_, pi_tup pa, fun σ ρ S H R l s z => ?_⟩
  refine qa σ ρ S H _ l s ((post_bindI z).imp ?_)
  rintro v H1 ⟨d, S1, qs, e, g1, rp, z1⟩
  cases d with
  | tup o xs =>
    cases o with
    | true => exact z1.elim
    | false =>
      cases rp with | tupS q r1 zz =>
      rename_i l1 v1
      refine ⟨l1, rfl, ⟨v1, sqt_mono g1.sh q⟩, z1 _ S1 H1 (fun H => SqT X.K H l1 v1) (YAt v1) (Grow.refl g1.sh) (by rw [← r1.length]; exact walk_tup) (fun H2 h2 => sqt_mono h2 q) ?_⟩
      rintro i H2 x H3 S2 d s2 s3 s4 hd ⟨rfl, hx⟩
      obtain ⟨v, rs, hv, rv, _⟩ := r1.get hd
      rw [hx] at hv; cases hv
      have hsd : d.sh = true := by
        rw [shs_all, List.all_eq_true] at zz
        exact zz d (List.mem_of_getElem? hd)
      exact ⟨Same.refl _, [], ((rv.sh hsd).2 H3).mono s3 (Same.refl _)⟩
  | _ => exact z1.elim
theorem di_str {shr : Bool} (ha : DO cl X W a f) : DI shr cl X W tg a (iStr f) := by
  obtain ⟨ta, pa, qa⟩ := ha.pf
  refine ⟨_, pi_str pa, fun σ ρ S H R l s z => ?_⟩
  refine qa σ ρ S H _ l s ((post_bindI z).imp ?_)
  rintro v H1 ⟨d, S1, qs, e, g1, rp, z1⟩
  cases d with
  | str t =>
    cases rp with | str _ ht =>
    refine ⟨tS t, rfl, z1 _ S1 H1 (fun _ => True) (fun i H v H' => H' = H ∧ ∃ c, (tS t).cps[i]? = some c ∧ v = .str ⟨#[c]⟩) (Grow.refl g1.sh) ?_ (fun _ _ => trivial) ?_⟩
    · have : (t.map fun c => D.str [c]).length = (tS t).cps.size := by simp [tS]
      rw [this]; exact walk_str
    · rintro i H2 x H3 S2 d s2 s3 s4 hd ⟨rfl, c, hc, rfl⟩
      have hc' : t[i]? = some c := by simpa [tS] using hc
      rw [List.getElem?_map, hc'] at hd
      cases hd
      exact ⟨Same.refl _, [], .str [c] fun c' h' => by
        have : c' = c := by simpa using h'
        subst this
        exact ht c' (List.mem_of_getElem? hc')⟩
  | _ => exact z1.elim
theorem rangeD_get {lo : Int} {n i : Nat} {d : D} (h : (rangeD lo n)[i]? = some d) : d = .int (lo + i) := by
  unfold rangeD at h
  rw [List.getElem?_map] at h
  obtain ⟨k, hk, rfl⟩ := Option.map_eq_some_iff.mp h
  have hk' := List.getElem?_eq_some_iff.mp hk
  obtain ⟨h1, h2⟩ := hk'
  rw [List.getElem_range] at h2
  rw [h2]
theorem di_range1 {shr : Bool} (hg : Gl X "range") (hm : X.mg "range" = none) (ha : DO cl X W a f) (hs : starEach [a] X.env = [(false, eval a X.env)] := by rfl) : DI shr cl X W tg (.Call (.Name "range" p) [a] [] pos) (iRange1 f) := by
  obtain ⟨ta, pa, qa⟩ := ha.pf
  refine ⟨_, pi_range1 hg hm (pa_cons pa pa_nil hs) hs, fun σ ρ S H R l s z => ?_⟩
  refine qa σ ρ S H _ l s ((post_bindI z).imp ?_)
  rintro v H1 ⟨d, S1, qs, e, g1, rp, z1⟩
  cases d with
  | int n =>
    cases rp
    cases hf : fits62 n with
    | false => simp only [hf] at z1; exact z1.elim
    | true =>
      simp only [hf, if_true] at z1
      simp only [fits62, Bool.and_eq_true, decide_eq_true_eq] at hf
      refine ⟨n, rfl, by omega, by omega, z1 _ S1 H1 (fun _ => True) (YFn fun i => .int (0 + i)) (Grow.refl g1.sh) (by rw [show (rangeD 0 n.toNat).length = n.toNat by simp [rangeD]]; exact walk_range) (fun _ _ => trivial) ?_⟩
      rintro i H2 x H3 S2 d s2 s3 s4 hd ⟨rfl, rfl⟩
      rw [rangeD_get hd]
      exact ⟨Same.refl _, [], .int _⟩
  | _ => exact z1.elim
theorem di_range2 {shr : Bool} (hg : Gl X "range") (hm : X.mg "range" = none) (ha : DO cl X W a f) (hb : DO cl X W b g) (hs : starEach [a, b] X.env = [(false, eval a X.env), (false, eval b X.env)] := by rfl) (hs2 : starEach [b] X.env = [(false, eval b X.env)] := by rfl) :
    DI shr cl X W tg (.Call (.Name "range" p) [a, b] [] pos) (iRange2 f g) := by
  obtain ⟨ta, pa, qa⟩ := ha.pf
  obtain ⟨tb, pb, qb⟩ := hb.pf
  refine ⟨_, pi_range2 hg hm (pa_cons pa (pa_cons pb pa_nil hs2) (by rw [hs, hs2])) hs hs2, fun σ ρ S H R l s z => ?_⟩
  refine qa σ ρ S H _ l s ((post_bindI z).imp ?_)
  rintro v H1 ⟨d, S1, qs, e, g1, rp, z1⟩
  refine qb σ ρ S1 H1 _ (l.mono g1) g1.sh ((post_bindI z1).imp ?_)
  rintro u H2 ⟨d2, S2, rs, e2, g2, rp2, z2⟩
  cases d with
  | int i =>
    cases d2 with
    | int j =>
      cases rp; cases rp2
      cases hf : (fits62 i && fits62 j) with
      | false => simp only [hf] at z2; exact z2.elim
      | true =>
        simp only [hf, if_true] at z2
        simp only [fits62, Bool.and_eq_true, decide_eq_true_eq] at hf
        refine ⟨i, j, rfl, ⟨by omega, by omega, by omega, by omega⟩, z2 _ S2 H2 (fun _ => True) (YFn fun k => .int (i + k)) (Grow.refl g2.sh) (by rw [show (rangeD i (j - i).toNat).length = (j - i).toNat by simp [rangeD]]; exact walk_range) (fun _ _ => trivial) ?_⟩
        rintro k H2 x H3 S2 d s2 s3 s4 hd ⟨rfl, rfl⟩
        rw [rangeD_get hd]
        exact ⟨Same.refl _, [], .int _⟩
    | _ => exact z2.elim
  | _ => exact z2.elim
theorem enum_get : ∀ (xs : List D) (k : Int) (i : Nat) (d : D), (enumFrom k xs)[i]? = some d → ∃ x, xs[i]? = some x ∧ d = .tup true [.int (k + i), x]
  | [], k, i, d, h => by simp [enumFrom] at h
  | x :: xs, k, 0, d, h => by
    simp [enumFrom] at h
    exact ⟨x, rfl, by rw [← h]; simp⟩
  | x :: xs, k, i + 1, d, h => by
    obtain ⟨y, h1, h2⟩ := enum_get xs (k + 1) i d (by simpa [enumFrom] using h)
    exact ⟨y, by simpa using h1, by rw [h2]; congr 3; omega⟩
theorem enum_len : ∀ (xs : List D) (k : Int), (enumFrom k xs).length = xs.length
  | [], _ => rfl
  | x :: xs, k => by simp [enumFrom, enum_len xs (k + 1)]
theorem di_enum {elts : List Expr} {kk : Nat} {tpos : Pos} (hg : Gl X "enumerate") (hm : X.mg "enumerate" = none) (ha : DO cl X W a f) (hs : starEach [a] X.env = [(false, eval a X.env)] := by rfl) :
    DI false cl X W (.Tuple elts kk tpos) (.Call (.Name "enumerate" p) [a] [] pos) (iEnum (iLst f)) := by
  obtain ⟨ta, pa, qa⟩ := ha.pf
  refine ⟨_, pi_enum hg hm (pa_cons pa pa_nil hs) hs, fun σ ρ S H R l s z => ?_⟩
  have z' : PostI false cl X.K W σ S H ((f ρ).bind fun d => ((match d with
      | .lst _ xs => .ok xs
      | .scr ns => .ok (ns.map .int)
      | _ => .no : Res (List D))).bind fun xs => .ok (enumFrom 0 xs)) R := by
    unfold iEnum iLst at z
    cases k : f ρ with
    | no => rw [k] at z; exact z
    | ex c fs => rw [k] at z; exact z
    | ok d => rw [k] at z; exact z
  refine qa σ ρ S H _ l s ((post_bindI z').imp ?_)
  rintro v H1 ⟨d, S1, qs, e, g1, rp, z1⟩
  cases d with
  | lst o xs =>
    obtain ⟨l1, v1, q1, rfl, h1, r1⟩ := rp.lst g1.sh
    refine ⟨l1, v1, rfl, .inl (.inl h1), z1 _ S1 H1 (fun H => SqL X.K H l1 v1) _ (Grow.refl g1.sh) (by rw [enum_len, ← r1.length]; exact walk_enum) (fun H2 h2 => .inl (.inl (h2 _ _ h1))) ?_⟩
    rintro i H2 x H3 S2 d s2 s3 s4 hd ⟨T, y1, y2, rfl, hT, rfl, e1, e2⟩
    obtain ⟨dx, hdx, rfl⟩ := enum_get xs 0 i d hd
    obtain ⟨v, rs, hv, rv, _⟩ := r1.get hdx
    cases e1
    have e2' : v1[i]? = some y2 := e2
    rw [hv] at e2'; cases e2'
    exact ⟨same_new hT, _, .tupO upd_same (.cons (by rw [show (0 : Int) + (i : Int) = (i : Int) by omega]; exact .int _) (.cons ((rv.mono s3 s2).mono (Same.refl _) (same_new hT)) .nil))⟩
  | scr ns =>
    cases rp with | scr _ q =>
    refine ⟨_, _, rfl, sql_mono g1.sh q, z1 _ S1 H1 (fun H => SqL X.K H _ (ns.map V.int)) _ (Grow.refl g1.sh) (by rw [enum_len, List.length_map, ← List.length_map (f := V.int)]; exact walk_enum) (fun H2 h2 => sql_mono h2 (sql_mono g1.sh q)) ?_⟩
    rintro i H2 x H3 S2 d s2 s3 s4 hd ⟨T, y1, y2, rfl, hT, rfl, e1, e2⟩
    obtain ⟨dx, hdx, rfl⟩ := enum_get _ 0 i d hd
    obtain ⟨v, rs, hv, rv, _⟩ := (rp_intmap (K := X.K) (S := S2) (H := H2) ns).1.get hdx
    cases e1
    have e2' : (ns.map V.int)[i]? = some y2 := e2
    rw [hv] at e2'; cases e2'
    exact ⟨same_new hT, _, .tupO upd_same (.cons (by rw [show (0 : Int) + (i : Int) = (i : Int) by omega]; exact .int _) (.cons (rv.mono (Same.refl _) (same_new hT)) .nil))⟩
  | _ => exact z1.elim
theorem di_enumS {elts : List Expr} {kk : Nat} {tpos : Pos} (hg : Gl X "enumerate") (hm : X.mg "enumerate" = none) (ha : DO cl X W a f) (hs : starEach [a] X.env = [(false, eval a X.env)] := by rfl) :
    DI true cl X W (.Tuple elts kk tpos) (.Call (.Name "enumerate" p) [a] [] pos) (iEnum (iLstS f)) := by
  obtain ⟨ta, pa, qa⟩ := ha.pf
  refine ⟨_, pi_enum hg hm (pa_cons pa pa_nil hs) hs, fun σ ρ S H R l s z => ?_⟩
  have z' : PostI true cl X.K W σ S H ((f ρ).bind fun d => ((match d with
      | .lst false xs => .ok xs
      | .scr ns => .ok (ns.map .int)
      | _ => .no : Res (List D))).bind fun xs => .ok (enumFrom 0 xs)) R := by
    unfold iEnum iLstS at z
    cases k : f ρ with
    | no => rw [k] at z; exact z
    | ex c fs => rw [k] at z; exact z
    | ok d => rw [k] at z; exact z
  refine qa σ ρ S H _ l s ((post_bindI z').imp ?_)
  rintro v H1 ⟨d, S1, qs, e, g1, rp, z1⟩
  cases d with
  | lst o xs =>
    cases o with
    | true => exact z1.elim
    | false =>
      cases rp with | lstS q r1 zz =>
      rename_i l1 v1
      refine ⟨l1, v1, rfl, .inl (.inl (g1.sh _ _ q)), z1 _ S1 H1 (fun H => SqL X.K H l1 v1) _ (Grow.refl g1.sh) (by rw [enum_len, ← r1.length]; exact walk_enum) (fun H2 h2 => .inl (.inl (h2 _ _ q))) ?_⟩
      rintro i H2 x H3 S2 d s2 s3 s4 hd ⟨T, y1, y2, rfl, hT, rfl, e1, e2⟩
      obtain ⟨dx, hdx, rfl⟩ := enum_get xs 0 i d hd
      obtain ⟨v, rs, hv, rv, _⟩ := r1.get hdx
      cases e1
      have e2' : v1[i]? = some y2 := e2
      rw [hv] at e2'; cases e2'
      have hsd : dx.sh = true := by
        rw [shs_all, List.all_eq_true] at zz
        exact zz dx (List.mem_of_getElem? hdx)
      exact ⟨same_new hT, _, .tupO upd_same (.cons (by rw [show (0 : Int) + (i : Int) = (i : Int) by omega]; exact .int _) (.cons (((rv.sh hsd).2 _).mono s3 (Same.refl _)) .nil))⟩
  | scr ns =>
    cases rp with | scr _ q =>
    refine ⟨_, _, rfl, sql_mono g1.sh q, z1 _ S1 H1 (fun H => SqL X.K H _ (ns.map V.int)) _ (Grow.refl g1.sh) (by rw [enum_len, List.length_map, ← List.length_map (f := V.int)]; exact walk_enum) (fun H2 h2 => sql_mono h2 q) ?_⟩
    rintro i H2 x H3 S2 d s2 s3 s4 hd ⟨T, y1, y2, rfl, hT, rfl, e1, e2⟩
    obtain ⟨dx, hdx, rfl⟩ := enum_get _ 0 i d hd
    obtain ⟨v, rs, hv, rv, _⟩ := (rp_intmap (K := X.K) (S := S2) (H := H2) ns).1.get hdx
    cases e1
    have e2' : (ns.map V.int)[i]? = some y2 := e2
    rw [hv] at e2'; cases e2'
    exact ⟨same_new hT, _, .tupO upd_same (.cons (by rw [show (0 : Int) + (i : Int) = (i : Int) by omega]; exact .int _) (.cons (rv.mono (Same.refl _) (same_new hT)) .nil))⟩
  | _ => exact z1.elim
end
end G


set_option maxHeartbeats 1000000
/-! Own layer, part 9: comprehensions. -/
namespace G
open PySem L2
/-- readings that hang on the denotation alone -/
def tD (cl : Cl) (K : PySem.W.Frag) (W : WX) (f : E) : TE := fun σ H Q => ∃ ρ S, Look K S H σ ρ ∧ Same S H ∧ PostE cl K W σ S H (f ρ) Q
def tDT (cl : Cl) (K : PySem.W.Frag) (W : WX) (f : E) : TT := fun σ H Q => ∃ ρ S, Look K S H σ ρ ∧ Same S H ∧ PostT cl K W σ S H (f ρ) Q
abbrev W0 : WX := fun _ _ _ _ => False
section
variable {cl : Cl} {X : Cx} {W : WX} {e : Expr} {f : E}
theorem DE.pe (h : DE cl X W e f) : PE X e (tD cl X.K W f) := by
  obtain ⟨t, p, q⟩ := h.pf
  refine ⟨fun pins s σ H Q I z => ?_⟩
  obtain ⟨ρ, S, l, ss, po⟩ := z
  exact p.run pins s σ H Q I (q σ ρ S H Q l ss po)
theorem DT.pt (h : DT cl X W e f) : PT X e (tDT cl X.K W f) := by
  obtain ⟨t, p, q⟩ := h.pf
  refine ⟨fun pins s σ H Q I z => ?_⟩
  obtain ⟨ρ, S, l, ss, po⟩ := z
  exact p.run pins s σ H Q I (q σ ρ S H Q l ss po)
end
theorem Look.clr {K : PySem.W.Frag} {S H : Hp} {σ : St} {ρ : Env} (l : Look K S H σ ρ) : ∀ vs : List Nat, Look K S H (wipe σ vs) (clr vs ρ)
  | [] => l
  | v :: vs => by
    have ih := Look.clr l vs
    refine ⟨by simp [wipe, G.clr, ih.1], fun i d h => ?_⟩
    unfold G.clr at h
    by_cases hi : i = v
    · subst hi
      rw [List.getElem?_set] at h
      split at h
      · split at h <;> cases h
      · rename_i hne; exact absurd rfl hne
    · rw [List.getElem?_set_ne (Ne.symm hi)] at h
      obtain ⟨w, qs, h1, h2⟩ := ih.2 i d h
      exact ⟨w, qs, by unfold wipe; rw [List.getElem?_set_ne (Ne.symm hi)]; exact h1, h2⟩
theorem Look.put {K : PySem.W.Frag} {S H : Hp} {σ : St} {ρ : Env} (l : Look K S H σ ρ) {v : V} {d : D} {qs : List Addr} (r : Rp K S H v d qs) (i : Nat) : Look K S H (σ.set i (some v)) (put ρ i d) := by
  refine ⟨by simp [G.put, l.1], fun j d' h => ?_⟩
  unfold G.put at h
  by_cases hi : j = i
  · subst hi
    rw [List.getElem?_set] at h
    split at h
    · split at h
      · rename_i hlt
        cases h
        exact ⟨v, qs, by rw [List.getElem?_set_self (by rw [l.1]; exact hlt)], r⟩
      · cases h
    · rename_i hne; exact absurd rfl hne
  · rw [List.getElem?_set_ne (Ne.symm hi)] at h
    obtain ⟨w, qs, h1, h2⟩ := l.2 j d' h
    exact ⟨w, qs, by rw [List.getElem?_set_ne (Ne.symm hi)]; exact h1, h2⟩
/-- a target in a comprehension -/
def CG (K : PySem.W.Frag) (vs : List Nat) (g : TG) (b : B) : Prop := ∀ (σ : St) (ρ ρ1 : Env) (S H : Hp) (v : V) (d : D) (qs : List Addr) (Q : St → Hp → Prop), Look K S H σ ρ → Same S H → Rp K S H v d qs → b d ρ = .ok ρ1 →
  (∀ σ1, wipe σ1 vs = wipe σ vs → Look K S H σ1 ρ1 → Q σ1 H) → g v σ H Q
theorem cg_name {K : PySem.W.Frag} (i : Nat) : CG K [i] (gName i) (cN i) := by
  intro σ ρ ρ1 S H v d qs Q l s r e k
  cases e
  exact k _ (by simp [wipe]) (l.put r i)
theorem RpAll.two {K : PySem.W.Frag} {S H : Hp} {vs : List V} {x y : D} {ps : List Addr} (h : RpAll K S H vs [x, y] ps) : ∃ v1 v2 p1 p2, vs = [v1, v2] ∧ Rp K S H v1 x p1 ∧ Rp K S H v2 y p2 := by
  cases h with
  | cons ra t =>
    cases t with
    | cons rb t2 =>
      cases t2
      exact ⟨_, _, _, _, rfl, ra, rb⟩
theorem wipe2 (σ : St) (i j : Nat) (v u : V) : wipe ((σ.set i (some v)).set j (some u)) [i, j] = wipe σ [i, j] := by
  simp only [wipe]
  by_cases hij : i = j
  · subst hij; simp
  · rw [List.set_set, List.set_comm _ _ hij, List.set_set, List.set_comm _ _ (Ne.symm hij)]
theorem cT2 {i j : Nat} {d : D} {ρ ρ1 : Env} (e : cT [i, j] d ρ = .ok ρ1) : ∃ o x y, d = .tup o [x, y] ∧ ρ1 = put (put ρ i x) j y := by
  cases d with
  | tup o ds =>
    cases ds with
    | nil => simp [cT, cNs] at e
    | cons x ds =>
      cases ds with
      | nil => simp [cT, cNs] at e
      | cons y ds =>
        cases ds with
        | nil => simp [cT, cNs] at e; exact ⟨o, x, y, rfl, e.symm⟩
        | cons z ds => simp [cT, cNs] at e
  | _ => simp [cT] at e
theorem cg_tup2 {K : PySem.W.Frag} (i j : Nat) : CG K [i, j] (gTup K 2 (gCons (gName i) (gCons (gName j) gNil))) (cT [i, j]) := by
  intro σ ρ ρ1 S H v d qs Q l s r e k
  obtain ⟨o, x, y, rfl, rfl⟩ := cT2 e
  obtain ⟨a, vs, rs, rfl, h1, r1⟩ := r.tup s
  obtain ⟨v1, v2, p1, p2, rfl, ra, rb⟩ := r1.two
  exact ⟨a, [v1, v2], rfl, h1, rfl, v1, [v2], rfl, v2, [], rfl, rfl, k _ (wipe2 σ i j v1 v2) ((l.put ra i).put rb j)⟩
section
variable {cl : Cl} {X : Cx} {W : WX} {elt tg iter : Expr} {ifs : List Expr} {scope : Scope} {own : List (Str × Nat)} {pos : Pos} {b : B} {g : TG} {c f : E} {it : I}
def DTs (cl : Cl) (X : Cx) (W : WX) (ifs : List Expr) (c : E) : Prop := PTs X ifs (tDT cl X.K W c)
theorem dts_nil : DTs cl X W [] eYes := ⟨fun pins s σ H Q I h => by
  obtain ⟨ρ, S, l, ss, po⟩ := h
  exact (pts_nil (X := X)).run pins s σ H Q I (po S H (Grow.refl ss))⟩
theorem dts_one {e : Expr} (h : DT cl X W e c) : DTs cl X W [e] c := pts_one h.pt
theorem nox_ok {α : Type} {r : Res α} {a : α} (h : r.nox = .ok a) : r = .ok a := by
  cases r <;> simp [Res.nox] at h ⊢
  exact h
theorem lc_run {K : PySem.W.Frag} {vs : List Nat} (hb : CG K vs g b) {σ : St} {ρ : Env} {S H : Hp} {Q : VK} {J : It} {ds zs : List D} {G : Hp → Prop} {Y : Nat → Hp → V → Hp → Prop}
    (l : Look K S H σ ρ) (s : Same S H) (wk : Walk J ds.length G Y) (hG : ∀ H2, Same H H2 → G H2)
    (hY : ∀ i H2 x H3 S2 d, Same H H2 → Same S S2 → Same S2 H2 → ds[i]? = some d → Y i H2 x H3 → Same H2 H3 ∧ ∃ qs, Rp K S2 H3 x d qs)
    (hc : compL b c f (clr vs ρ) ds = .ok zs) (hz : zs.length ≤ LINE)
    (k : ∀ v S' H' qs, Grow S H S' H' → Fresh H S' qs → Rp K S' H' v (.lst true zs) qs → Q v H') :
    ∀ Dd, H Dd = none → ∃ Wk : Nat → Nat → Hp → Prop, (∃ m, Wk 0 m (upd H Dd (.lst []))) ∧ ∀ i m H, Wk i m H →
      (J.stop i H ∧ Q (.ref Dd) H) ∨ (J.go i H ∧ ∃ Nx : Hp → Prop, (∀ H', Nx H' → ∃ m', m' < m ∧ Wk (i + 1) m' H') ∧ ∀ x H', J.yld i H x H' → g x (wipe σ vs) H' fun σ2 H2 => wipe σ2 vs = wipe σ vs ∧ (tDT cl K W0 c) σ2 H2 fun b H3 =>
        if b = true then (tD cl K W0 f) σ2 H3 fun y H4 => ∃ acc, H4 Dd = some (.lst acc) ∧ acc.length < sizeLine ∧ Nx (upd H4 Dd (.lst (acc ++ [y]))) else Nx H3) := by
  intro Dd hD
  refine lc_it wk (fun i H2 => ∃ S2 as ys qs rest, compL b c f (clr vs ρ) (ds.drop i) = .ok rest ∧ zs = ys ++ rest ∧ Grow S H S2 H2 ∧ Fresh H S2 (Dd :: qs) ∧ H2 Dd = some (.lst as) ∧ RpAll K S2 H2 as ys qs) ?_ ?_ ?_ ?_
  · refine ⟨S, [], [], [], zs, by simpa using hc, rfl, (Grow.refl s).more (same_new hD), ⟨by simp, fun q hq => ?_⟩, upd_same, .nil⟩
    have e : q = Dd := by simpa using hq
    subst e
    exact ⟨hD, none_back s hD⟩
  · rintro i H2 hi ⟨S2, as, ys, qs, rest, _, _, gr, _⟩
    exact hG H2 gr.hh
  · rintro i x H2 H3 hi ⟨S2, as, ys, qs, rest, h1, h2, gr, fr, hd, ra⟩ hy
    have hlt : i < ds.length := hi
    have hdi : ds[i]? = some ds[i] := List.getElem?_eq_getElem hlt
    obtain ⟨s23, rs, rp⟩ := hY i H2 x H3 S2 _ gr.hh gr.ss gr.sh hdi hy
    rw [List.drop_eq_getElem_cons hlt] at h1
    unfold compL at h1
    cases k1 : b ds[i] (clr vs ρ) with
    | no => rw [k1] at h1; cases h1
    | ex c' fs => rw [k1] at h1; cases h1
    | ok ρ1 =>
      have k1n : (b ds[i] (clr vs ρ)).nox = .ok ρ1 := by rw [k1]; rfl
      rw [k1n] at h1
      simp only [Res.bind] at h1
      have gr3 : Grow S H S2 H3 := gr.more s23
      refine hb _ _ ρ1 S2 H3 x _ rs _ ((l.mono gr3).clr vs) gr3.sh rp k1 fun σ1 hw l1 => ⟨?_, ?_⟩
      · rw [hw]
        have ww : ∀ us : List Nat, wipe (wipe σ vs) us = wipe σ vs ∨ True := fun _ => .inr trivial
        -- wiping twice
        have : ∀ (us ws : List Nat) (τ : St), (∀ u ∈ us, u ∈ ws) → wipe (wipe τ ws) us = wipe τ ws := by
          intro us
          induction us with
          | nil => intro ws τ _; rfl
          | cons u us ih =>
            intro ws τ hsub
            show (wipe (wipe τ ws) us).set u none = wipe τ ws
            rw [ih ws τ fun z hz => hsub z (List.mem_cons_of_mem _ hz)]
            have hu := hsub u (List.mem_cons_self ..)
            clear ih hsub
            induction ws generalizing τ with
            | nil => cases hu
            | cons w ws ih2 =>
              show ((wipe τ ws).set w none).set u none = (wipe τ ws).set w none
              by_cases hwu : w = u
              · subst hwu; simp
              · rw [List.set_comm _ _ hwu, ih2 τ (by
                  rcases List.mem_cons.mp hu with z | z
                  · exact absurd z.symm hwu
                  · exact z)]
        exact this vs vs σ fun _ h => h
      · cases k2 : (c ρ1).nox with
        | no => rw [k2] at h1; cases h1
        | ex c' fs => rw [k2] at h1; cases h1
        | ok kd =>
          rw [k2] at h1
          have k2' := nox_ok k2
          cases kd with
          | bl kb =>
            refine ⟨ρ1, S2, l1, gr3.sh, ?_⟩
            rw [k2']
            intro S4 H4 g4
            have gr4 := gr3.trans g4
            have fr4 := fr.on (gr3.trans g4 |> fun _ => (⟨s23.trans g4.hh, g4.ss, g4.sh, fun a o ha hn => none_back s23 (g4.nw a o ha hn)⟩ : Grow S2 H2 S4 H4)) (fun q hq => by
              rcases List.mem_cons.mp hq with rfl | hq
              · exact ⟨_, hd⟩
              · exact ra.there q hq)
            cases kb with
            | false =>
              refine ⟨S4, as, ys, qs, rest, h1, h2, gr4, fr4, (s23.trans g4.hh) _ _ hd, ra.mono g4.ss (s23.trans g4.hh)⟩
            | true =>
              cases k3 : (f ρ1).nox with
              | no => simp only [k3] at h1; cases h1
              | ex c' fs => simp only [k3] at h1; cases h1
              | ok y =>
                simp only [k3] at h1
                have k3' := nox_ok k3
                cases k4 : compL b c f (clr vs ρ) (ds.drop (i + 1)) with
                | no => simp only [k4] at h1; cases h1
                | ex c' fs => simp only [k4] at h1; cases h1
                | ok rest' =>
                  simp only [k4] at h1
                  cases h1
                  refine ⟨ρ1, S4, l1.mono g4, g4.sh, ?_⟩
                  rw [k3']
                  intro v S5 H5 ps g5 f5 rp5
                  have hd5 : H5 Dd = some (.lst as) := g5.hh _ _ ((s23.trans g4.hh) _ _ hd)
                  have th4 : ∀ q ∈ Dd :: qs, ∃ o, H4 q = some o := fun q hq => by
                    rcases List.mem_cons.mp hq with rfl | hq
                    · exact ⟨_, (s23.trans g4.hh) _ _ hd⟩
                    · obtain ⟨o, ho⟩ := ra.there q hq
                      exact ⟨o, (s23.trans g4.hh) _ _ ho⟩
                  have frA : Fresh H S5 ((Dd :: qs) ++ ps) := fr4.app th4 gr4.hh g5 f5
                  have gr5 := gr4.trans g5
                  have hDq : Dd ∉ qs ++ ps := by
                    have := frA.1
                    simp only [List.cons_append, List.nodup_cons] at this
                    exact this.1
                  have hall : as.length < sizeLine := by
                    have e1 := ra.length
                    have e2 : zs.length = ys.length + (y :: rest').length := by rw [h2, List.length_append]
                    rw [List.length_cons] at e2
                    rw [line_eq]
                    omega
                  refine ⟨as, hd5, hall, S5, as ++ [v], ys ++ [y], qs ++ ps, rest', rfl, by rw [h2]; simp, ⟨same_set gr5.hh hD, gr5.ss, same_set gr5.sh (frA.2 Dd (by simp)).2, gr5.nw⟩, by simpa using frA, upd_same, ?_⟩
                  have r1 : RpAll K S5 H5 as ys qs := (ra.mono g4.ss (s23.trans g4.hh)).mono g5.ss g5.hh
                  have r2 : RpAll K S5 H5 [v] [y] ps := by simpa using RpAll.cons rp5 RpAll.nil
                  exact (r1.append r2).set hDq
          | _ => cases h1
  · rintro H2 ⟨S2, as, ys, qs, rest, h1, h2, gr, fr, hd, ra⟩
    rw [List.drop_length] at h1
    cases h1
    rw [List.append_nil] at h2
    subst h2
    exact k (.ref Dd) S2 H2 (Dd :: qs) gr fr (.lstO hd ra)
theorem nox_noex {α : Type} (r : Res α) (c : String) (fs : List D) : r.nox ≠ .ex c fs := by cases r <;> simp [Res.nox]
theorem compL_noex {ρ : Env} : ∀ (l : List D) (c' : String) (fs : List D), compL b c f ρ l ≠ .ex c' fs
  | [], _, _ => by simp [compL]
  | x :: l, c', fs => by
    unfold compL
    cases k1 : (b x ρ).nox with
    | no => simp [Res.bind]
    | ex c0 f0 => exact absurd k1 (nox_noex _ _ _)
    | ok ρ1 =>
      simp only [Res.bind]
      cases k2 : (c ρ1).nox with
      | no => simp
      | ex c0 f0 => exact absurd k2 (nox_noex _ _ _)
      | ok kd =>
        cases kd with
        | bl kb =>
          cases kb with
          | false => exact compL_noex l c' fs
          | true =>
            cases k3 : (f ρ1).nox with
            | no => simp
            | ex c0 f0 => exact absurd k3 (nox_noex _ _ _)
            | ok y =>
              simp only
              cases k4 : compL b c f ρ l with
              | no => simp
              | ex c0 f0 => exact absurd k4 (compL_noex l c0 f0)
              | ok ys => simp
        | _ => simp
theorem lc_den (hi : DI false cl X W tg iter it) (hb : CG X.K (own.map (·.2)) g b) : ∃ wi, PI X tg iter wi ∧ ∀ (σ : St) (ρ : Env) (S H : Hp) (Q : VK), Look X.K S H σ ρ → Same S H → PostE cl X.K W σ S H (eComp (own.map (·.2)) it b c f ρ) Q → tLc wi g (tDT cl X.K W0 c) (tD cl X.K W0 f) (own.map (·.2)) σ H Q := by
  obtain ⟨wi, pi, qi⟩ := hi.pf
  refine ⟨wi, pi, fun σ ρ S H Q l s z => qi σ ρ S H _ l s ?_⟩
  unfold eComp at z
  cases k1 : it ρ with
  | no => rw [k1] at z; exact z
  | ex c' fs => rw [k1] at z; exact z
  | ok ds =>
    simp only [k1, Res.bind] at z
    cases k2 : compL b c f (clr (own.map (·.2)) ρ) ds with
    | no => simp only [k2] at z; exact z.elim
    | ex c' fs =>
      exact absurd k2 (compL_noex _ c' fs)
    | ok zs =>
      simp only [k2] at z
      by_cases hz : zs.length ≤ LINE
      · simp only [hz, if_true] at z
        intro J S' H' G Y g1 wk hG hY
        exact lc_run hb (l.mono g1) g1.sh wk hG hY k2 hz (PostE.on (r := .ok (.lst true zs)) g1 z)
      · simp only [hz, if_false] at z; exact z.elim
theorem de_comp {vs : List Nat} (hv : own.map (·.2) = vs) (hc : X.calm = true) (hN : X.N.Nodup) (hi : DI false cl X W tg iter it) (ok : BlkOk X.N X.env.scope scope own) (hb : CG X.K vs g b)
    (hg : ∀ (s : Shared) (H : Hp) (C : Addr) (cls : List (Str × Addr)) (fp : List Addr), PG (X.blk s H scope (compEnvC scope cls C X.env) fp) tg g)
    (ht : ∀ (s : Shared) (H : Hp) (C : Addr) (cls : List (Str × Addr)) (fp : List Addr), DTs cl (X.blk s H scope (compEnvC scope cls C X.env) fp) W0 ifs c)
    (he : ∀ (s : Shared) (H : Hp) (C : Addr) (cls : List (Str × Addr)) (fp : List Addr), DE cl (X.blk s H scope (compEnvC scope cls C X.env) fp) W0 elt f)
    (hs : ∀ x, foldedSetIterable iter X.env x = pure x := by intro _; rfl) : DE cl X W (.ListComp elt [⟨tg, iter, ifs, 0⟩] scope pos) (eComp vs it b c f) := by
  subst hv
  obtain ⟨wi, pi, q⟩ := lc_den (c := c) (f := f) hi hb
  exact ⟨_, pe_lc (tt := tDT cl X.K W0 c) (te := tD cl X.K W0 f) hc hN pi ok hg (fun s H C cls fp => ht s H C cls fp) (fun s H C cls fp => (he s H C cls fp).pe) hs, q⟩
end
end G


set_option maxHeartbeats 1000000
/-! Own layer, part 10: statements, defs. -/
namespace G
open PySem L2
def PostS (cl : Cl) (K : PySem.W.Frag) (W : WX) (S0 H0 : Hp) (o : Out) (Dn : Ends) : Prop := match o with
  | .no => False
  | .nx ρ => ∀ S H σ, Rl K S0 H0 S H σ ρ → Dn.nx σ H
  | .bk ρ => ∀ S H σ, Rl K S0 H0 S H σ ρ → Dn.bk σ H
  | .ct ρ => ∀ S H σ, Rl K S0 H0 S H σ ρ → Dn.ct σ H
  | .rt d => ∀ v S H qs, Grow S0 H0 S H → Fresh H0 S qs → Rp K S H v d qs → Dn.rt v H
  | .xc c fs ρ => ∀ S H σ cls dd, Rl K S0 H0 S H σ ρ → XR cl H c fs cls dd → W cls dd σ H
structure DS (cl : Cl) (X : Cx) (W : WX) (st : Stmt) (F : Sd) : Prop where
  pf : ∃ t : TS, PS X st t ∧ ∀ (S0 H0 S H : Hp) (σ : St) (ρ : Env) (Dn : Ends), Rl X.K S0 H0 S H σ ρ → PostS cl X.K W S0 H0 (F ρ) Dn → t Dn σ H
structure DSs (cl : Cl) (X : Cx) (W : WX) (st : List Stmt) (F : Sd) : Prop where
  pf : ∃ t : TS, PSs X st t ∧ ∀ (S0 H0 S H : Hp) (σ : St) (ρ : Env) (Dn : Ends), Rl X.K S0 H0 S H σ ρ → PostS cl X.K W S0 H0 (F ρ) Dn → t Dn σ H
section
variable {cl : Cl} {K : PySem.W.Frag} {W : WX} {S0 H0 S H : Hp} {σ : St} {ρ : Env} {Dn : Ends} {r : Res D}
/-- an expression in a statement -/
theorem stmt_e {k : D → Out} {Q : VK} (R : Rl K S0 H0 S H σ ρ) (z : PostS cl K W S0 H0 (sE r ρ k) Dn)
    (h : ∀ d v S' H' qs, r = .ok d → Grow S H S' H' → Fresh H S' qs → Rp K S' H' v d qs → Rl K S0 H0 S' H' σ ρ → PostS cl K W S0 H0 (k d) Dn → Q v H') : PostE cl K W σ S H r Q := by
  cases r with
  | no => exact z
  | ok d => exact fun v S' H' qs g f rp => h d v S' H' qs rfl g f rp (R.grow g) z
  | ex c fs => exact fun S' H' cls dd g x => z S' H' σ cls dd (R.grow g) x
theorem stmt_t {k : D → Out} {Q : Bool → Hp → Prop} (hk : ∀ d, (∀ b, d ≠ .bl b) → k d = .no) (R : Rl K S0 H0 S H σ ρ) (z : PostS cl K W S0 H0 (sE r ρ k) Dn)
    (h : ∀ b S' H', Grow S H S' H' → Rl K S0 H0 S' H' σ ρ → PostS cl K W S0 H0 (k (.bl b)) Dn → Q b H') : PostT cl K W σ S H r Q := by
  cases r with
  | no => exact z
  | ok d =>
    cases d with
    | bl b => exact fun S' H' g => h b S' H' g (R.grow g) z
    | _ =>
      have z : PostS cl K W S0 H0 (k _) Dn := z
      rw [hk _ (by intro b z; cases z)] at z
      exact z
  | ex c fs => exact fun S' H' cls dd g x => z S' H' σ cls dd (R.grow g) x
end
section
variable {cl : Cl} {X : Cx} {W : WX} {st : Stmt} {rest a b : List Stmt} {e c : Expr} {f : E} {F G' : Sd} {pos : Pos}
theorem put_len (ρ : Env) (i : Nat) (d : D) : (put ρ i d).length = ρ.length := by simp [put]
theorem dss_nil : DSs cl X W [] sPass := ⟨tNext, pss_nil, fun S0 H0 S H σ ρ Dn R z => z S H σ R⟩
theorem PostS.seq {S0 H0 : Hp} {o : Out} {Dn : Ends} {u : TS} (z : PostS cl X.K W S0 H0 (o.then G') Dn)
    (h : ∀ ρ S H σ, Rl X.K S0 H0 S H σ ρ → PostS cl X.K W S0 H0 (G' ρ) Dn → u Dn σ H) : PostS cl X.K W S0 H0 o { Dn with nx := u Dn } := by
  cases o with
  | nx ρ => exact fun S H σ R => h ρ S H σ R z
  | _ => exact z
theorem dss_cons (h1 : DS cl X W st F) (h2 : DSs cl X W rest G') : DSs cl X W (st :: rest) (sSeq F G') := by
  obtain ⟨t, pt, qt⟩ := h1.pf
  obtain ⟨u, pu, qu⟩ := h2.pf
  refine ⟨_, pss_cons pt pu, fun S0 H0 S H σ ρ Dn R z => qt S0 H0 S H σ ρ _ R ?_⟩
  exact PostS.seq z fun ρ S H σ R z => qu S0 H0 S H σ ρ Dn R z
theorem dss_one (h1 : DS cl X W st F) : DSs cl X W [st] F := let ⟨t, pt, qt⟩ := h1.pf; ⟨t, pss_one pt, qt⟩
theorem ds_pass : DS cl X W (.Pass pos) sPass := ⟨_, ps_pass, fun S0 H0 S H σ ρ Dn R z => z S H σ R⟩
theorem ds_break : DS cl X W (.Break pos) sBreak := ⟨_, ps_break, fun S0 H0 S H σ ρ Dn R z => z S H σ R⟩
theorem ds_cont : DS cl X W (.Continue pos) sCont := ⟨_, ps_continue, fun S0 H0 S H σ ρ Dn R z => z S H σ R⟩
/-- a statement that nothing is told of -/
theorem ds_no : DS cl X W st sNo := ⟨_, ps_never, fun S0 H0 S H σ ρ Dn R z => z.elim⟩
theorem dss_no : DSs cl X W rest sNo := ⟨_, pss_never, fun S0 H0 S H σ ρ Dn R z => z.elim⟩
theorem ds_set {i : Nat} {x : Str} {pos' : Pos} (hN : X.N.Nodup) (hi : X.N[i]? = some x) (hx : Loc X.env.scope x) (he : DE cl X W e f) (hs : swapsWith e (some (.Name x pos')) pos.line X.env = pure false := by rfl) (hf : X.fn x = true ∨ X.env.scope.names.lookup x = some .local := by first | exact .inl rfl | exact .inr rfl | assumption) :
    DS cl X W (.Assign [.Name x pos'] e pos) (sSet i f) := by
  obtain ⟨t, pt, q⟩ := he.pf
  refine ⟨_, ps_set hN hi hx pt hs hf, fun S0 H0 S H σ ρ Dn R z => ?_⟩
  refine q σ ρ S H _ R.look R.gr.sh (stmt_e R z ?_)
  intro d v S' H' qs hr g f rp R' z1
  refine z1 S' H' _ ?_
  by_cases hl : i < ρ.length
  · exact R.put g f rp hl
  · have e1 : put ρ i d = ρ := List.set_eq_of_length_le (Nat.not_lt.mp hl)
    have e2 : σ.set i (some v) = σ := List.set_eq_of_length_le (by rw [R.look.1]; exact Nat.not_lt.mp hl)
    rw [e1, e2]; exact R'
theorem ds_setLc {i : Nat} {y : Str} {py : Pos} {elt tg iter : Expr} {ifs : List Expr} {scope : Scope} {own : List (Str × Nat)} {vs : List Nat} {p2 spos : Pos} {b : B} {g : TG} {c f : E} {it : I} (hv : own.map (·.2) = vs) (hc : X.calm = true) (hN : X.N.Nodup) (hy : X.N[i]? = some y) (hyl : X.env.scope.names.lookup y = some .local)
    (hsw : swapsWith (.ListComp elt [⟨tg, iter, ifs, 0⟩] scope p2) (some (.Name y py)) spos.line X.env = pure true) (hi : DI false cl X W tg iter it) (ok : BlkOk X.N X.env.scope scope own) (hb : CG X.K vs g b)
    (hg : ∀ (s : Shared) (H : Hp) (C : Addr) (cls : List (Str × Addr)) (fp : List Addr), PG (X.blk s H scope (compEnvC scope cls C X.env) fp) tg g)
    (ht : ∀ (s : Shared) (H : Hp) (C : Addr) (cls : List (Str × Addr)) (fp : List Addr), DTs cl (X.blk s H scope (compEnvC scope cls C X.env) fp) W0 ifs c)
    (he : ∀ (s : Shared) (H : Hp) (C : Addr) (cls : List (Str × Addr)) (fp : List Addr), DE cl (X.blk s H scope (compEnvC scope cls C X.env) fp) W0 elt f)
    (hs : ∀ x, foldedSetIterable iter X.env x = pure x := by intro _; rfl) : DS cl X W (.Assign [.Name y py] (.ListComp elt [⟨tg, iter, ifs, 0⟩] scope p2) spos) (sSet i (eComp vs it b c f)) := by
  subst hv
  obtain ⟨wi, pi, q⟩ := lc_den (c := c) (f := f) hi hb
  refine ⟨_, ps_setLc (tt := tDT cl X.K W0 c) (te := tD cl X.K W0 f) hc hN hy hyl hsw pi ok hg (fun s H C cls fp => ht s H C cls fp) (fun s H C cls fp => (he s H C cls fp).pe) hs, fun S0 H0 S H σ ρ Dn R z => ?_⟩
  refine q σ ρ S H _ R.look R.gr.sh (stmt_e R z ?_)
  intro d v S' H' qs hr g f rp R' z1
  refine z1 S' H' _ ?_
  by_cases hl : i < ρ.length
  · exact R.put g f rp hl
  · have e1 : put ρ i d = ρ := List.set_eq_of_length_le (Nat.not_lt.mp hl)
    have e2 : σ.set i (some v) = σ := List.set_eq_of_length_le (by rw [R.look.1]; exact Nat.not_lt.mp hl)
    rw [e1, e2]; exact R'
theorem ds_drop (he : DE cl X W e f) (hs : swapsWith e none pos.line X.env = pure false := by rfl) : DS cl X W (.Expr e pos) (sDrop f) := by
  obtain ⟨t, pt, q⟩ := he.pf
  refine ⟨_, ps_expr pt hs, fun S0 H0 S H σ ρ Dn R z => ?_⟩
  exact q σ ρ S H _ R.look R.gr.sh (stmt_e R z fun d v S' H' qs hr g f rp R' z1 => z1 S' H' _ R')
theorem ds_ret (he : DE cl X W e f) : DS cl X W (.Return (some e) pos) (sRet f) := by
  obtain ⟨t, pt, q⟩ := he.pf
  refine ⟨_, ps_ret pt, fun S0 H0 S H σ ρ Dn R z => ?_⟩
  exact q σ ρ S H _ R.look R.gr.sh (stmt_e R z fun d v S' H' qs hr g f rp R' z1 => z1 v S' H' qs R'.gr (f.back R.gr.hh) rp)
theorem ds_retN : DS cl X W (.Return none pos) sRetN := ⟨_, ps_retN, fun S0 H0 S H σ ρ Dn R z => z .non S H [] R.gr Fresh.nil .non⟩
/-- return x -/
theorem ds_retM (i : Nat) (p : PE X e (tVar i)) : DS cl X W (.Return (some e) pos) (sRetM i) := by
  refine ⟨_, ps_ret p, fun S0 H0 S H σ ρ Dn R z => ?_⟩
  unfold sRetM at z
  rcases get_cases ρ i with e | ⟨d, e⟩
  · rw [e] at z; exact z.elim
  · rw [e] at z
    obtain ⟨ps, it, nd, fr⟩ := R.it
    have e' : ρ[i]? = some (some d) := by
      unfold get at e
      split at e
      · rename_i d' e'; cases e; exact e'
      · cases e
    obtain ⟨v, qs, ps', h1, h2, h3, h4, h5⟩ := it.pick i e'
    exact ⟨v, h1, z v S H qs R.gr ⟨(h5 nd).2.1, fun q hq => fr q ((h4 q).mpr (.inr hq))⟩ h2⟩
theorem ds_if (hc : DT cl X W c f) (ha : DSs cl X W a F) (hb : DSs cl X W b G') : DS cl X W (.If c a b pos) (sIf f F G') := by
  obtain ⟨tc, pc, qc⟩ := hc.pf
  obtain ⟨ta, pa, qa⟩ := ha.pf
  obtain ⟨tb, pb, qb⟩ := hb.pf
  refine ⟨_, ps_if pc pa pb, fun S0 H0 S H σ ρ Dn R z => ?_⟩
  refine qc σ ρ S H _ R.look R.gr.sh (stmt_t (by intro d hd; cases d <;> first | rfl | exact absurd rfl (hd _)) R z ?_)
  intro b S' H' g R' z1
  cases b with
  | true => exact qa S0 H0 S' H' σ ρ Dn R' z1
  | false => exact qb S0 H0 S' H' σ ρ Dn R' z1
/-- the name's value is shared from here on: nothing of the text -/
theorem rl_frz {K : PySem.W.Frag} {S0 H0 S H : Hp} {σ : St} {ρ : Env} {i : Nat} {d : D} (R : Rl K S0 H0 S H σ ρ) (e' : ρ[i]? = some (some d)) : ∃ S', Rl K S0 H0 S' H σ (put ρ i d.frz) := by
  obtain ⟨ps, it, nd, fr⟩ := R.it
  obtain ⟨v, qs, ps', h1, h2, h3, h4, h5⟩ := it.pick i e'
  have hq : ∀ q ∈ qs, S q = none := fun q hq => (fr q ((h4 q).mpr (.inr hq))).2
  have ss : Same S (fun a => if a ∈ qs then H a else S a) := fun b o hb => by
    have : b ∉ qs := fun z => by rw [hq b z] at hb; cases hb
    simp only [this, if_false]; exact hb
  have sh : Same (fun a => if a ∈ qs then H a else S a) H := fun b o hb => by
    by_cases hb' : b ∈ qs
    · simpa only [hb', if_true] using hb
    · simp only [hb', if_false] at hb; exact R.gr.sh b o hb
  have hi : i < ρ.length := (List.getElem?_eq_some_iff.mp e').1
  have rp : Rp K (fun a => if a ∈ qs then H a else S a) H v d.frz [] := h2.frz ss (fun p hp o ho => by simp only [hp, if_true]; exact ho) H
  obtain ⟨ps2, a1, a2, a3⟩ := (h3.mono ss (Same.refl H)).put rp i (by simpa using hi)
  have e1 : put (ρ.set i none) i d.frz = put ρ i d.frz := by simp [put]
  have e2 : σ.set i (some v) = σ := by
    have hs := List.getElem?_eq_some_iff.mp h1
    obtain ⟨hlt, hv⟩ := hs
    rw [← hv]; exact List.set_getElem_self hlt
  rw [e1, e2] at a1
  refine ⟨_, ⟨R.gr.hh, R.gr.ss.trans ss, sh, fun a o ha hn => ?_⟩, ps2, a1, a3 (h5 nd).1 List.nodup_nil (fun _ _ z => nomatch z), fun p hp => ?_⟩
  · by_cases hb' : a ∈ qs
    · exact (fr a ((h4 a).mpr (.inr hb'))).1
    · simp only [hb', if_false] at ha; exact R.gr.nw a o ha hn
  · rcases a2 p hp with z | z
    · have hpq : p ∉ qs := (h5 nd).2.2 p z
      have := fr p ((h4 p).mpr (.inl z))
      refine ⟨this.1, ?_⟩
      show (if p ∈ qs then H p else S p) = none
      rw [if_neg hpq]; exact this.2
    · cases z
theorem ds_frz (i : Nat) (h : DS cl X W st F) : DS cl X W st (sFrz i F) := by
  obtain ⟨t, pt, q⟩ := h.pf
  refine ⟨t, pt, fun S0 H0 S H σ ρ Dn R z => ?_⟩
  unfold sFrz at z
  rcases get_cases ρ i with e | ⟨d, e⟩
  · rw [e] at z; exact z.elim
  · rw [e] at z
    have e' : ρ[i]? = some (some d) := by
      unfold get at e
      split at e
      · rename_i d' e'; cases e; exact e'
      · cases e
    obtain ⟨S', R'⟩ := rl_frz R e'
    exact q S0 H0 S' H σ _ Dn R' z
end
end G


set_option maxHeartbeats 1000000
/-! Own layer, part 11: append, loops, defs. -/
namespace G
open PySem L2
theorem get_some {ρ : Env} {i : Nat} {d : D} (e : get ρ i = .ok d) : ρ[i]? = some (some d) := by
  unfold get at e
  split at e
  · rename_i d' e'; cases e; exact e'
  · cases e
/-- an owned list of a name is changed -/
theorem rl_mut {K : PySem.W.Frag} {S0 H0 S H : Hp} {σ : St} {ρ : Env} {i : Nat} {xs zs : List D} (R : Rl K S0 H0 S H σ ρ) (e : ρ[i]? = some (some (.lst true xs))) {S1 H1 : Hp} (g : Grow S H S1 H1) {ws : List V} {rs : List Addr} (fr : Fresh H S1 rs)
    (hz : ∀ vs qs, RpAll K S1 H1 vs xs qs → (∀ q ∈ qs, q ∉ rs) → ∃ ys ps, RpAll K S1 H1 ys zs ps ∧ (qs.Nodup → ps.Nodup) ∧ (∀ p ∈ ps, p ∈ qs ∨ p ∈ rs) ∧ ys = vs ++ ws) :
    ∃ l vs, σ[i]? = some (some (.ref l)) ∧ H1 l = some (.lst vs) ∧ vs.length = xs.length ∧ Rl K S0 H0 S1 (upd H1 l (.lst (vs ++ ws))) σ (put ρ i (.lst true zs)) := by
  have R1 := R.grow g
  obtain ⟨ps, it, nd, fr0⟩ := R.it
  obtain ⟨v, qs, ps', h1, h2, h3, h4, h5⟩ := it.pick i e
  have fr1 : ∀ p ∈ ps, S1 p = none := fun p hp => by
    cases e : S1 p with
    | none => rfl
    | some u =>
      obtain ⟨o, ho⟩ := it.there p hp
      have z := g.nw p u e (fr0 p hp).2
      rw [ho] at z; cases z
  have nrs : ∀ p ∈ ps, p ∉ rs := fun p hp hr => by
    obtain ⟨o, ho⟩ := it.there p hp
    have z := (fr.2 p hr).1
    rw [ho] at z; cases z
  have h2' := h2.mono g.ss g.hh
  cases h2' with
  | @lstO l vs _ qs' hl ra =>
    have hin : ∀ q, q ∈ l :: qs' → q ∈ ps := fun q hq => (h4 q).mpr (.inr hq)
    obtain ⟨n1, n2, n3⟩ := h5 nd
    have n2' := List.nodup_cons.mp n2
    obtain ⟨ys, ps2, ra2, nd2, sub2, rfl⟩ := hz vs qs' ra (fun q hq => nrs q (hin q (List.mem_cons_of_mem _ hq)))
    have hlps : l ∉ ps2 := fun z => by
      rcases sub2 l z with z | z
      · exact n2'.1 z
      · exact nrs l (hin l (List.mem_cons_self ..)) z
    have hl' : l ∉ ps' := fun z => n3 l z (List.mem_cons_self ..)
    have it1 : Its K S1 (upd H1 l (.lst (vs ++ ws))) σ (ρ.set i none) ps' := (h3.mono g.ss g.hh).set hl'
    have rp : Rp K S1 (upd H1 l (.lst (vs ++ ws))) (.ref l) (.lst true zs) (l :: ps2) := .lstO upd_same (ra2.set hlps)
    have hi : i < ρ.length := (List.getElem?_eq_some_iff.mp e).1
    obtain ⟨ps3, a1, a2, a3⟩ := it1.put rp i (by simpa using hi)
    have e1 : put (ρ.set i none) i (.lst true zs) = put ρ i (.lst true zs) := by simp [put]
    have e2 : σ.set i (some (.ref l)) = σ := by
      obtain ⟨hlt, hv⟩ := List.getElem?_eq_some_iff.mp h1
      rw [← hv]; exact List.set_getElem_self hlt
    rw [e1, e2] at a1
    have hH0 : H0 l = none := (fr0 l (hin l (List.mem_cons_self ..))).1
    have hS1 : S1 l = none := fr1 l (hin l (List.mem_cons_self ..))
    refine ⟨l, vs, h1, hl, ra.length, ⟨⟨same_set R1.gr.hh hH0, R1.gr.ss, same_set R1.gr.sh hS1, R1.gr.nw⟩, ps3, a1, ?_, fun p hp => ?_⟩⟩
    · refine a3 n1 (List.nodup_cons.mpr ⟨hlps, nd2 n2'.2⟩) fun p hp hq => ?_
      rcases List.mem_cons.mp hq with rfl | hq
      · exact hl' hp
      · rcases sub2 p hq with z | z
        · exact n3 p hp (List.mem_cons_of_mem _ z)
        · exact nrs p ((h4 p).mpr (.inl hp)) z
    · rcases a2 p hp with z | z
      · have hp' := (h4 p).mpr (.inl z)
        exact ⟨(fr0 p hp').1, fr1 p hp'⟩
      · rcases List.mem_cons.mp z with rfl | z
        · exact ⟨hH0, hS1⟩
        · rcases sub2 p z with z | z
          · have hp' := hin p (List.mem_cons_of_mem _ z)
            exact ⟨(fr0 p hp').1, fr1 p hp'⟩
          · exact ⟨none_back R.gr.hh (fr.2 p z).1, (fr.2 p z).2⟩
section
variable {cl : Cl} {X : Cx} {W : WX} {st : Stmt} {rest a b : List Stmt} {e c o : Expr} {f : E} {F G' : Sd} {pos apos cpos : Pos}
/-- x.append(e) -/
theorem ds_app (i : Nat) (ho : PE X o (tVar i)) (he : DE cl X W e f)
    (hbase : attributeBase o "append" X.env (eval o X.env) = eval o X.env := by rfl)
    (hfew : ((backTo cpos (starEach [e] X.env)).all (fun x => !x.1) && (backToKw cpos (keywordEach [] X.env)).all (fun x => x.1.isSome)
      && decide (([e] : List Expr).length + ([] : List Keyword).length + (if ([] : List Keyword).isEmpty then 0 else 1) < 30)) = true := by rfl)
    (hline : (apos.endLine == cpos.line) = true := by rfl) (hs : starEach [e] X.env = [(false, eval e X.env)] := by rfl)
    (hsw : swapsWith (.Call (.Attribute o "append" apos) [e] [] cpos) none pos.line X.env = pure false := by rfl) :
    DS cl X W (.Expr (.Call (.Attribute o "append" apos) [e] [] cpos) pos) (sApp i f) := by
  obtain ⟨t, pt, q⟩ := he.pf
  refine ⟨_, ps_expr (pe_bm PySem.F.plainAttrs_list PySem.F.slot_list_append PySem.F.type_list_append mt_append ho (pa_cons pt pa_nil hs) hbase hfew hline hs) hsw, fun S0 H0 S H σ ρ Dn R z => ?_⟩
  unfold sApp at z
  rcases get_cases ρ i with eg | ⟨d0, eg⟩
  · rw [eg] at z; exact z.elim
  · rw [eg] at z
    cases d0 with
    | lst ow xs =>
      cases ow with
      | false => exact z.elim
      | true =>
        have z : PostS cl X.K W S0 H0 (sE (f ρ) ρ fun d => if xs.length < LINE then .nx (put ρ i (.lst true (xs ++ [d]))) else .no) Dn := z
        have eg' := get_some eg
        obtain ⟨v0, q0, hv0, rv0⟩ := R.look.2 i _ eg'
        obtain ⟨l, vs0, _, rfl, hl0, _⟩ := rv0.lst R.gr.sh
        refine ⟨.ref l, hv0, .inl ⟨rfl, vs0, .inl (.inl hl0)⟩, ?_⟩
        refine q σ ρ S H _ R.look R.gr.sh (stmt_e R z ?_)
        intro d v S' H' qs hr g fr rp R' z1
        by_cases hlen : xs.length < LINE
        · simp only [hlen, if_true] at z1
          obtain ⟨l', vs, h1, h2, h3, h4⟩ := rl_mut (ws := [v]) (zs := xs ++ [d]) R eg' g fr (fun vs qs' ra hd => ⟨vs ++ [v], qs' ++ qs, ra.append (by simpa using RpAll.cons rp RpAll.nil), fun nd => List.nodup_append.mpr ⟨nd, fr.1, fun a ha b hb z => hd a ha (z ▸ hb)⟩, fun p hp => List.mem_append.mp hp, rfl⟩)
          rw [hv0] at h1; cases h1
          exact ⟨l, vs, v, rfl, rfl, h2, by rw [h3, line_eq]; exact hlen, z1 S' _ σ h4⟩
        · simp only [hlen, if_false] at z1; exact z1.elim
    | _ => exact z.elim
/-- x.extend(e) -/
theorem ds_ext (i : Nat) (ho : PE X o (tVar i)) (he : DE cl X W e f)
    (hbase : attributeBase o "extend" X.env (eval o X.env) = eval o X.env := by rfl)
    (hfew : ((backTo cpos (starEach [e] X.env)).all (fun x => !x.1) && (backToKw cpos (keywordEach [] X.env)).all (fun x => x.1.isSome)
      && decide (([e] : List Expr).length + ([] : List Keyword).length + (if ([] : List Keyword).isEmpty then 0 else 1) < 30)) = true := by rfl)
    (hline : (apos.endLine == cpos.line) = true := by rfl) (hs : starEach [e] X.env = [(false, eval e X.env)] := by rfl)
    (hsw : swapsWith (.Call (.Attribute o "extend" apos) [e] [] cpos) none pos.line X.env = pure false := by rfl) :
    DS cl X W (.Expr (.Call (.Attribute o "extend" apos) [e] [] cpos) pos) (sExt i f) := by
  obtain ⟨t, pt, q⟩ := he.pf
  refine ⟨_, ps_expr (pe_bm PySem.F.plainAttrs_list PySem.F.slot_list_extend PySem.F.type_list_extend mt_extend ho (pa_cons pt pa_nil hs) hbase hfew hline hs) hsw, fun S0 H0 S H σ ρ Dn R z => ?_⟩
  unfold sExt at z
  rcases get_cases ρ i with eg | ⟨d0, eg⟩
  · rw [eg] at z; exact z.elim
  · rw [eg] at z
    cases d0 with
    | lst ow xs =>
      cases ow with
      | false => exact z.elim
      | true =>
        have z : PostS cl X.K W S0 H0 (sE (f ρ) ρ fun d => match d with
          | .lst _ ys => if xs.length + ys.length ≤ LINE then .nx (put ρ i (.lst true (xs ++ ys))) else .no
          | _ => .no) Dn := z
        have eg' := get_some eg
        obtain ⟨v0, q0, hv0, rv0⟩ := R.look.2 i _ eg'
        obtain ⟨l, vs0, _, rfl, hl0, _⟩ := rv0.lst R.gr.sh
        refine ⟨.ref l, hv0, .inl ⟨rfl, vs0, .inl (.inl hl0)⟩, ?_⟩
        refine q σ ρ S H _ R.look R.gr.sh (stmt_e R z ?_)
        intro d v S' H' qs hr g fr rp R' z1
        cases d with
        | lst o2 ys =>
          have z1 : PostS cl X.K W S0 H0 (if xs.length + ys.length ≤ LINE then .nx (put ρ i (.lst true (xs ++ ys))) else .no) Dn := z1
          by_cases hlen : xs.length + ys.length ≤ LINE
          · rw [if_pos hlen] at z1
            obtain ⟨b, ws, qs2, rfl, hb, rb, sub, nd2⟩ : ∃ b ws qs2, v = .ref b ∧ H' b = some (.lst ws) ∧ RpAll X.K S' H' ws ys qs2 ∧ (∀ q ∈ qs2, q ∈ qs) ∧ qs2.Nodup := by
              cases rp with
              | lstS q1 r1 z => exact ⟨_, _, [], rfl, g.sh _ _ q1, r1, (fun _ z => nomatch z), List.nodup_nil⟩
              | lstO q1 r1 => exact ⟨_, _, _, rfl, q1, r1, fun q hq => List.mem_cons_of_mem _ hq, (List.nodup_cons.mp fr.1).2⟩
            have fr2 : Fresh H S' qs2 := ⟨nd2, fun q hq => fr.2 q (sub q hq)⟩
            obtain ⟨l', vs, h1, h2, h3, h4⟩ := rl_mut (ws := ws) (zs := xs ++ ys) R eg' g fr2 (fun vs qs' ra hd => ⟨vs ++ ws, qs' ++ qs2, ra.append rb, fun nd => List.nodup_append.mpr ⟨nd, nd2, fun a ha b hb z => hd a ha (z ▸ hb)⟩, fun p hp => List.mem_append.mp hp, rfl⟩)
            rw [hv0] at h1; cases h1
            exact ⟨l, b, vs, ws, rfl, rfl, h2, hb, by rw [h3, rb.length, line_eq]; exact hlen, z1 S' _ σ h4⟩
          · rw [if_neg hlen] at z1; exact z1.elim
        | _ => exact z1.elim
    | _ => exact z.elim

/-! ### targets of statements -/
def SG (K : PySem.W.Frag) (g : TG) (b : B) : Prop := ∀ (S0 H0 S H : Hp) (σ : St) (ρ ρ1 : Env) (v : V) (d : D) (qs : List Addr) (Q : St → Hp → Prop), Rl K S0 H0 S H σ ρ → Rp K S H v d qs → b d ρ = .ok ρ1 →
  (∀ σ1, Rl K S0 H0 S H σ1 ρ1 → Q σ1 H) → g v σ H Q
theorem rl_bind {K : PySem.W.Frag} {S0 H0 S H : Hp} {σ : St} {ρ : Env} (R : Rl K S0 H0 S H σ ρ) {v : V} {d : D} {qs : List Addr} (r : Rp K S H v d qs) (hs : d.sh = true) (i : Nat) : Rl K S0 H0 S H (σ.set i (some v)) (put ρ i d) := by
  by_cases hl : i < ρ.length
  · exact R.put (Grow.refl R.gr.sh) Fresh.nil ((r.sh hs).2 H) hl
  · have e1 : put ρ i d = ρ := List.set_eq_of_length_le (Nat.not_lt.mp hl)
    have e2 : σ.set i (some v) = σ := List.set_eq_of_length_le (by rw [R.look.1]; exact Nat.not_lt.mp hl)
    rw [e1, e2]; exact R
theorem sg_name {K : PySem.W.Frag} (i : Nat) : SG K (gName i) (bN i) := by
  intro S0 H0 S H σ ρ ρ1 v d qs Q R r e k
  unfold bN at e
  split at e
  · rename_i hs
    cases e
    exact k _ (rl_bind R r hs i)
  · cases e
theorem sg_names {K : PySem.W.Frag} : ∀ (is : List Nat) (vs : List V) (ds : List D) (ps : List Addr) (S0 H0 S H : Hp) (σ : St) (ρ ρ1 : Env) (Q : St → Hp → Prop), Rl K S0 H0 S H σ ρ → RpAll K S H vs ds ps → bNs is ds ρ = .ok ρ1 →
    (∀ σ1, Rl K S0 H0 S H σ1 ρ1 → Q σ1 H) → (is.foldr (fun i u => gCons (gName i) u) gNil) vs σ H Q
  | [], vs, ds, ps, S0, H0, S, H, σ, ρ, ρ1, Q, R, r, e, k => by
    cases r with
    | nil => cases e; exact ⟨rfl, k σ R⟩
    | cons _ _ => cases e
  | i :: is, vs, ds, ps, S0, H0, S, H, σ, ρ, ρ1, Q, R, r, e, k => by
    cases r with
    | nil => cases e
    | cons ra t =>
      unfold bNs at e
      split at e
      · rename_i hs
        exact ⟨_, _, rfl, sg_names is _ _ _ S0 H0 S H _ _ ρ1 Q (rl_bind R ra hs i) t e k⟩
      · cases e
theorem bNs_len : ∀ (is : List Nat) (ds : List D) (ρ ρ1 : Env), bNs is ds ρ = .ok ρ1 → ds.length = is.length
  | [], [], _, _, _ => rfl
  | [], _ :: _, _, _, e => by cases e
  | _ :: _, [], _, _, e => by cases e
  | i :: is, d :: ds, ρ, ρ1, e => by
    unfold bNs at e
    split at e
    · simp [bNs_len is ds _ _ e]
    · cases e
theorem sg_tup {K : PySem.W.Frag} (is : List Nat) : SG K (gTup K is.length (is.foldr (fun i u => gCons (gName i) u) gNil)) (bT is) := by
  intro S0 H0 S H σ ρ ρ1 v d qs Q R r e k
  cases d with
  | tup o ds =>
    obtain ⟨a, vs, rs, rfl, h1, r1⟩ := r.tup R.gr.sh
    have e : bNs is ds ρ = .ok ρ1 := e
    exact ⟨a, vs, rfl, h1, by rw [r1.length, bNs_len is ds _ _ e], sg_names is vs ds rs S0 H0 S H σ ρ ρ1 Q R r1 e k⟩
  | _ => cases e
/-- a, b = e -/
theorem ds_bind {tg : Expr} {g : TG} {bb : B} (he : DE cl X W e f) (hg : PG X tg g) (hb : SG X.K g bb) (hs : swapsWithSole [tg] e pos.line X.env = pure false := by rfl) (hw : swappedStores [tg] e X.env = pure none := by rfl)
    (h1 : (assignEach [tg] X.env).map (·.2) = [assign tg X.env] := by rfl) : DS cl X W (.Assign [tg] e pos) (sBind bb f) := by
  obtain ⟨t, pt, q⟩ := he.pf
  refine ⟨_, ps_asg pt hg hs hw h1, fun S0 H0 S H σ ρ Dn R z => ?_⟩
  refine q σ ρ S H _ R.look R.gr.sh (stmt_e R z ?_)
  intro d v S' H' qs hr g fr rp R' z1
  cases kb : (bb d ρ).nox with
  | no => rw [kb] at z1; exact z1.elim
  | ex c0 f0 => exact absurd kb (nox_noex _ _ _)
  | ok ρ1 =>
    rw [kb] at z1
    exact hb S0 H0 S' H' σ ρ ρ1 v d qs _ R' rp (nox_ok kb) fun σ1 R1 => z1 S' H' σ1 R1

/-! ### loops -/
/-- the entry with what is shared at S too -/
def upE (H0 S : Hp) : Hp := fun a => match H0 a with
  | some o => some o
  | none => S a
theorem upE_none {H0 S : Hp} {a : Addr} (h : upE H0 S a = none) : H0 a = none ∧ S a = none := by
  unfold upE at h
  cases e : H0 a with
  | none => rw [e] at h; exact ⟨rfl, h⟩
  | some o => rw [e] at h; cases h
theorem gr_up {S0 H0 S S2 H2 : Hp} (g : Grow S0 H0 S2 H2) (s0 : Same S0 S) (ss : Same S S2) : Grow S (upE H0 S) S2 H2 := by
  refine ⟨fun b o hb => ?_, ss, g.sh, fun b o hb hn => ?_⟩
  · unfold upE at hb
    cases e : H0 b with
    | none => rw [e] at hb; exact g.sh b o (ss b o hb)
    | some u => rw [e] at hb; cases hb; exact g.hh b _ e
  · unfold upE
    have h0 : S0 b = none := none_back s0 hn
    rw [g.nw b o hb h0]; exact hn
theorem gr_down {S0 H0 S H S2 H2 : Hp} (g0 : Grow S0 H0 S H) (g : Grow S (upE H0 S) S2 H2) : Grow S0 H0 S2 H2 := by
  refine ⟨fun b o hb => g.hh b o (by unfold upE; rw [hb]), g0.ss.trans g.ss, g.sh, fun b o hb hn => ?_⟩
  cases e : S b with
  | some u => exact g0.nw b u e hn
  | none => exact (upE_none (g.nw b o hb e)).1
theorem rl_up {K : PySem.W.Frag} {S0 H0 S S2 H2 : Hp} {σ : St} {ρ : Env} (R : Rl K S0 H0 S2 H2 σ ρ) (s0 : Same S0 S) (ss : Same S S2) : Rl K S (upE H0 S) S2 H2 σ ρ := by
  obtain ⟨ps, it, nd, fr⟩ := R.it
  refine ⟨gr_up R.gr s0 ss, ps, it, nd, fun p hp => ⟨?_, (fr p hp).2⟩⟩
  unfold upE
  rw [(fr p hp).1]; exact none_back ss (fr p hp).2
theorem rl_down {K : PySem.W.Frag} {S0 H0 S H S2 H2 : Hp} {σ : St} {ρ : Env} (g0 : Grow S0 H0 S H) (R : Rl K S (upE H0 S) S2 H2 σ ρ) : Rl K S0 H0 S2 H2 σ ρ := by
  obtain ⟨ps, it, nd, fr⟩ := R.it
  exact ⟨gr_down g0 R.gr, ps, it, nd, fun p hp => ⟨(upE_none (fr p hp).1).1, (fr p hp).2⟩⟩
/-- one turn of a loop -/
theorem loop_turn {K : PySem.W.Frag} {S0 H0 S H : Hp} {o : Out} {k : Env → Out} {Dn : Ends} {N : St → Hp → Prop} (g0 : Grow S0 H0 S H) (zz : PostS cl K W S0 H0 (o.loop k) Dn)
    (hN : ∀ ρ S' H' σ, Rl K S0 H0 S' H' σ ρ → Same S S' → PostS cl K W S0 H0 (k ρ) Dn → N σ H') : PostS cl K W S (upE H0 S) o { Dn with nx := N, ct := N, bk := Dn.nx } := by
  cases o with
  | no => exact zz
  | nx ρ => exact fun S' H' σ R => hN ρ S' H' σ (rl_down g0 R) R.gr.ss zz
  | ct ρ => exact fun S' H' σ R => hN ρ S' H' σ (rl_down g0 R) R.gr.ss zz
  | bk ρ => exact fun S' H' σ R => zz S' H' σ (rl_down g0 R)
  | rt d => exact fun v S' H' qs g f rp => zz v S' H' qs (gr_down g0 g) ⟨f.1, fun q hq => ⟨(upE_none (f.2 q hq).1).1, (f.2 q hq).2⟩⟩ rp
  | xc c fs ρ => exact fun S' H' σ cls dd R x => zz S' H' σ cls dd (rl_down g0 R) x
theorem for_run {K : PySem.W.Frag} {g : TG} {bb : B} {tb : TS} {body : Sd} (hb : SG K g bb)
    (qb : ∀ (S0 H0 S H : Hp) (σ : St) (ρ : Env) (Dn : Ends), Rl K S0 H0 S H σ ρ → PostS cl K W S0 H0 (body ρ) Dn → tb Dn σ H)
    {S0 H0 S H : Hp} {σ : St} {ρ : Env} {J : It} {ds : List D} {G : Hp → Prop} {Y : Nat → Hp → V → Hp → Prop} {Dn : Ends}
    (R : Rl K S0 H0 S H σ ρ) (wk : Walk J ds.length G Y) (hG : ∀ H2, Same S H2 → G H2)
    (hY : ∀ i H2 x H3 S2 d, Same S H2 → Same S S2 → Same S2 H2 → ds[i]? = some d → Y i H2 x H3 → Same H2 H3 ∧ ∃ qs, Rp K S2 H3 x d qs)
    (z : PostS cl K W S0 H0 (forL bb body ds ρ) Dn) :
    ∃ Wk : Nat → Nat → St → Hp → Prop, (∃ m, Wk 0 m σ H) ∧ ∀ i m σ H, Wk i m σ H →
      (J.stop i H ∧ Dn.nx σ H) ∨ (J.go i H ∧ ∃ N : St → Hp → Prop, (∀ σ' H', N σ' H' → ∃ m', m' < m ∧ Wk (i + 1) m' σ' H') ∧ ∀ x H', J.yld i H x H' → g x σ H' fun σ2 H2 => tb { Dn with nx := N, ct := N, bk := Dn.nx } σ2 H2) := by
  refine for_it wk (fun i σ H2 => ∃ S2 ρ2, Rl K S0 H0 S2 H2 σ ρ2 ∧ Same S S2 ∧ PostS cl K W S0 H0 (forL bb body (ds.drop i) ρ2) Dn) ⟨S, ρ, R, Same.refl _, by simpa using z⟩ ?_ ?_ ?_
  · rintro i σ H2 hi ⟨S2, ρ2, R2, ss, _⟩
    exact hG H2 (ss.trans R2.gr.sh)
  · rintro i x σ H2 H3 hi ⟨S2, ρ2, R2, ss, zz⟩ hy
    have hdi : ds[i]? = some ds[i] := List.getElem?_eq_getElem hi
    obtain ⟨s23, rs, rp⟩ := hY i H2 x H3 S2 _ (ss.trans R2.gr.sh) ss R2.gr.sh hdi hy
    rw [List.drop_eq_getElem_cons hi] at zz
    unfold forL at zz
    have R3 : Rl K S0 H0 S2 H3 σ ρ2 := R2.grow ((Grow.refl R2.gr.sh).more s23)
    cases kb : (bb ds[i] ρ2).nox with
    | no => rw [kb] at zz; exact zz.elim
    | ex c0 f0 => exact absurd kb (nox_noex _ _ _)
    | ok ρ3 =>
      rw [kb] at zz
      have zz : PostS cl K W S0 H0 ((body ρ3).loop (forL bb body (ds.drop (i + 1)))) Dn := zz
      refine hb S0 H0 S2 H3 σ ρ2 ρ3 x _ rs _ R3 rp (nox_ok kb) fun σ1 R1 => qb S (upE H0 S) S2 H3 σ1 ρ3 _ (rl_up R1 R.gr.ss ss) ?_
      exact loop_turn R.gr zz fun ρ4 S4 H4 σ4 R4 ss4 z4 => ⟨S4, ρ4, R4, ss4, z4⟩
  · rintro σ H2 ⟨S2, ρ2, R2, ss, zz⟩
    rw [List.drop_length] at zz
    exact zz S2 H2 σ R2
theorem ds_for {tg iter : Expr} {body : List Stmt} {g : TG} {bb : B} {it : I} {F : Sd} (hp : PassesOwn (model X.prog X.w) X.A X.env X.xe) (hc : X.calm = true) (hi : DI true cl X W tg iter it) (hg : PG X tg g) (hb : SG X.K g bb) (hbd : DSs cl X W body F)
    (hs : ∀ x, foldedSetIterable iter X.env x = pure x := by intro _; rfl) : DS cl X W (.For tg iter body [] pos) (sFor it bb F) := by
  obtain ⟨wi, pi, qi⟩ := hi.pf
  obtain ⟨tb, pb, qb⟩ := hbd.pf
  refine ⟨_, ps_for hp hc pi hg pb hs, fun S0 H0 S H σ ρ Dn R z => qi σ ρ S H _ R.look R.gr.sh ?_⟩
  unfold sFor at z
  cases k1 : it ρ with
  | no => rw [k1] at z; exact z
  | ex c' fs => rw [k1] at z; exact fun S' H' cls dd g x => z S' H' σ cls dd (R.grow g) x
  | ok ds =>
    rw [k1] at z
    intro J S' H' G Y g1 wk hG hY
    exact for_run hb qb (R.grow g1) wk hG hY z
theorem ds_while {c : Expr} {f : E} {body : List Stmt} {F : Sd} (fuel : Nat) (hp : PassesOwn (model X.prog X.w) X.A X.env X.xe) (hc : DT cl X W c f) (hbd : DSs cl X W body F) : DS cl X W (.While c body [] pos) (sWhile fuel f F) := by
  obtain ⟨tc, pc, qc⟩ := hc.pf
  obtain ⟨tb, pb, qb⟩ := hbd.pf
  refine ⟨_, ps_while hp pc pb, fun S0 H0 S H σ ρ Dn R z => ?_⟩
  refine ⟨fun m σ2 H2 => ∃ S2 ρ2, Rl X.K S0 H0 S2 H2 σ2 ρ2 ∧ PostS cl X.K W S0 H0 (whL f F m ρ2) Dn, ⟨fuel, S, ρ, R, z⟩, ?_⟩
  rintro m σ2 H2 ⟨S2, ρ2, R2, zz⟩
  cases m with
  | zero => exact zz.elim
  | succ m =>
    unfold whL at zz
    refine qc σ2 ρ2 S2 H2 _ R2.look R2.gr.sh (stmt_t (by intro d hd; cases d <;> first | rfl | exact absurd rfl (hd _)) R2 zz ?_)
    intro b S' H' g R' z1
    cases b with
    | false => exact z1 S' H' σ2 R'
    | true =>
      refine ⟨fun σ3 H3 => ∃ S3 ρ3, Rl X.K S0 H0 S3 H3 σ3 ρ3 ∧ PostS cl X.K W S0 H0 (whL f F m ρ3) Dn, fun σ' H'' h => ⟨m, Nat.lt_succ_self _, h⟩, ?_⟩
      exact qb S' (upE H0 S') S' H' σ2 ρ2 _ (rl_up R' R'.gr.ss (Same.refl _)) (loop_turn R'.gr z1 fun ρ4 S4 H4 σ4 R4 _ z4 => ⟨S4, ρ4, R4, z4⟩)

/-! ### a def -/
theorem its_start {K : PySem.W.Frag} {S H : Hp} : ∀ {vs : List V} {ds : List D} {ps : List Addr} (n : Nat), RpAll K S H vs ds ps → Its K S H (vs.map some ++ List.replicate n none) (ds.map some ++ List.replicate n none) ps
  | _, _, _, n, .nil => by
    simp only [List.map_nil, List.nil_append]
    induction n with
    | zero => exact .nil
    | succ n ih => exact .skip ih
  | _, _, _, n, .cons r t => .item r (its_start n t)
theorem fn_ok {P : Program} {w : World} {K : PySem.W.Frag} {mg : Str → Option Value} {base : Heap} {x qual : Str} {st : Stmt} {fA : Addr} {fd : FuncData} {N ps : List Str} {k : Nat} {body : Sd} (Fn : Fun K x qual st fA fd) (Sc : FnScope N ps (defScope st))
    (hbody : ∀ (cdv : Value) (A : Around) (outer : List PySem.Env) (s : Shared) (H : Hp) (E : XK), Room k (A.deeper (PyProof.Rows.envOfC qual (defScope st) s.heap.objs.size fA cdv)) →
      DSs cl (cxOf (L2.CX P w) P w K mg base N qual (defScope st) fA cdv A outer s H E) (fun cls d _ H => E cls d H) (defBody st) body) :
    FnOk P w K mg base (L2.CX P w) (k + 1) fA fd ps (spD cl K ps.length (runF N.length body)) := by
  refine Fn.okX Sc (fun vs H Q E h => ?_) (fun cdv A outer s H vs Q E hr h => ?_)
  · obtain ⟨S, ds, _, ra, _, hl, _⟩ := h
    rw [ra.length, hl]
  · obtain ⟨S, ds, ss, ra, hsh, hl, hd⟩ := h
    obtain ⟨t, pt, q⟩ := (hbody cdv A outer s H E hr).pf
    refine ⟨t, pt, q S H S H (L2.start N vs) (ds.map some ++ List.replicate (N.length - ds.length) none) _ ⟨Grow.refl ss, [], ?_, List.nodup_nil, fun _ z => nomatch z⟩ ?_⟩
    · unfold L2.start
      rw [ra.length]
      exact its_start _ ra
    · unfold runF at hd
      cases k1 : body (ds.map some ++ List.replicate (N.length - ds.length) none) with
      | no => rw [k1] at hd; exact hd
      | nx ρ => rw [k1] at hd; exact fun S' H' σ R => hd .non S' H' [] R.gr Fresh.nil .non
      | bk ρ => rw [k1] at hd; exact hd.elim
      | ct ρ => rw [k1] at hd; exact hd.elim
      | rt d => rw [k1] at hd; exact fun v S' H' qs g f rp => hd v S' H' qs g f rp
      | xc c fs ρ => rw [k1] at hd; exact fun S' H' σ cls dd R x => hd S' H' cls dd R.gr x
end
end G


set_option maxHeartbeats 1000000
/-! Own layer, part 12: the end of a law. -/
namespace G
open PySem PySem.Spec PyProof.Rows L2
/-- as walk_of, with what is known of loose names -/
theorem walk_X {l : PySem.W.OpenLaw} {n k : Nat} {q : Program} {loose : List Str} {XP : (Str → Option Value) → Heap → Prop} {YP : World → Heap → Prop} {d : DefRec} {K : Params → PySem.W.Frag} {CX : World → CXT} {sp : World → Sp} {x : Str}
    (hn : l.most = some n) (hn2 : n ≤ sizeLine) (hdf : d.params.defaults = []) (hr : Room k callerA)
    (hY : ∀ (w : World) (h : Heap), YP w h → (K w.params).In h)
    (F : ∀ (w : World) (mg : Str → Option Value) (fa : Addr) (h : Heap), (K w.params).In h → h.Ns mainGlobals mg → XP mg h → mg d.name = some (.ref fa) →
      ∃ fd : FuncData, (∀ (s : Shared) (u : Value), BindsTo s fd ⟨[u], []⟩ [(x, u)]) ∧
        ∀ base : Heap, (K w.params).In base → base.Ns mainGlobals mg → FnOk l.prog w (K w.params) mg base (CX w) k fa fd [x] (sp w))
    (hsp : ∀ (w : World) (H : Hp) (a : Addr) (ns : List Int), ns.length ≤ n → Only H → SqL (K w.params) H a (ns.map V.int) → sp w [.ref a] H (fun v _ => v = .bl true) fun _ _ _ => False)
    (hCX : ∀ (w : World) (H : Hp) (s : Shared) (e : Value) (s' : Shared), CX w [] H s (fun _ _ _ => False) e s' → False) :
    PySem.W.WalkO q loose XP YP l.row.toRowW d [] (fun f vs => PySem.call f vs) := by
  refine Att.attach_call hn hdf fun w s₀ s₁ mg mb fa o pm cd doc a vs ns G Y ho hd hcd hmg hobj hints hlen hg => ?_
  have KX := hY w _ Y
  obtain ⟨fd, hb, hF⟩ := F w mg fa _ KX G.T.g G.X hmg
  exact law_call KX G.T.g G.T.b G.T.builtins G.T.nolimit hg hobj hints (Nat.le_trans hlen hn2) hr hF hb (fun H hO hS => hsp w H a ns hlen hO hS) fun H e s' => hCX w H s₁ e s'
theorem loose_str {p : Program} {lv : List (Str × PySem.W.WData)} {mg : Str → Option Value} {h : Heap} {x s : Str} (X : PySem.W.XL p lv mg h) (m : (x, PySem.W.WData.str s) ∈ lv) : ∃ t, mg x = some (.str s t) := by
  obtain ⟨v, h1, h2⟩ := X.2.val _ m
  cases h2
  exact ⟨_, h1⟩
theorem law_sp {cl : Cl} {K : PySem.W.Frag} {den : List D → Res D} {H : Hp} {a : Addr} {ns : List Int} (hS : SqL K H a (ns.map V.int)) (hd : den [.scr ns] = .ok (.bl true)) : spD cl K 1 den [.ref a] H (fun v _ => v = .bl true) (fun _ _ _ => False) := by
  refine ⟨H, [.scr ns], Same.refl _, ?_, rfl, rfl, ?_⟩
  · have := RpAll.cons (Rp.scr (K := K) (S := H) (H := H) ns hS) RpAll.nil
    simpa using this
  · rw [hd]
    intro v S' H' qs _ _ rp
    cases rp
    rfl
theorem law_cx {P : Program} {w : World} {H : Hp} {s : Shared} {e : Value} {s' : Shared} (h : L2.CX P w [] H s (fun _ _ _ => False) e s') : False := by
  obtain ⟨_, _, _, _, _, _, _, _, _, _, _, _, z⟩ := h
  exact z
/-- constants of the module -/
theorem de_gs {cl : Cl} {X : Cx} {W : WX} {x : Str} {pos : Pos} {s : Tx} (hg : Gl X x) (hm : ∃ t, X.mg x = some (.str (tS s) t)) (k : s.all (fun c => decide (c < 0x110000)) = true) (hd : (x == ("__debug__" : Str)) = false := by decide) : DE cl X W (.Name x pos) (eC (.str s)) := by
  obtain ⟨t, hm⟩ := hm
  exact de_c (v := .str (tS s)) (pe_glob hg hm ⟨t, rfl⟩ hd) fun _ _ => .str s (by simpa using k)
theorem de_gi {cl : Cl} {X : Cx} {W : WX} {x : Str} {pos : Pos} {i : Int} (hg : Gl X x) (hm : ∃ t, X.mg x = some (.int i t)) (hd : (x == ("__debug__" : Str)) = false := by decide) : DE cl X W (.Name x pos) (eC (.int i)) := by
  obtain ⟨t, hm⟩ := hm
  exact de_c (v := .int i) (pe_glob hg hm ⟨t, rfl⟩ hd) fun _ _ => .int i
end G


set_option maxHeartbeats 1000000
/-! Own layer, part 13: further expressions. -/
namespace G
open PySem L2
section
variable {cl : Cl} {X : Cx} {W : WX} {e a b c : Expr} {es : List Expr} {f g h : E} {fs : List E} {pos p : Pos}
theorem de_chn {op op' : CmpOp} {r r' : R2} {F F' : D → D → Option D} (ho : OpR X (compareOp op) r) (ho' : OpR X (compareOp op') r') (o : Op2 X r F) (o' : Op2 X r' F') (ha : DO cl X W a f) (hb : DO cl X W b g) (hc : DO cl X W c h)
    (hm : lastMarks [op, op'] [b, c] = false := by with_unfolding_all rfl) : DE cl X W (.Compare a [op, op'] [b, c] pos) (eChain F F' f g h) :=
  de_chain ho ho' o o' ha hb hc fun _ _ _ h1 h2 h3 => pe_chain ho ho' h1 h2 h3 hm
theorem dt_chain {op op' : CmpOp} {r r' : R2} {F F' : D → D → Option D} (ho : OpR X (compareOp op) r) (ho' : OpR X (compareOp op') r') (o : Op2 X r F) (o' : Op2 X r' F') (ha : DO cl X W a f) (hb : DO cl X W b g) (hc : DO cl X W c h)
    (hm : lastMarks [op, op'] [b, c] = false := by with_unfolding_all rfl) : DT cl X W (.Compare a [op, op'] [b, c] pos) (eChain F F' f g h) := by
  obtain ⟨t, pt, q⟩ := (de_chain (e := .Compare a [op, op'] [b, c] pos) ho ho' o o' ha hb hc (fun ta tb tc pa pb pc => pe_chain ho ho' pa pb pc hm)).pf
  obtain ⟨ta, pa, qa⟩ := ha.pf
  obtain ⟨tb, pb, qb⟩ := hb.pf
  obtain ⟨tc, pc, qc⟩ := hc.pf
  refine ⟨_, pt_chain ho ho' pa pb pc hm, fun σ ρ S H Q l s z => ?_⟩
  -- as a value first
  have key : ∀ Q' : VK, PostE cl X.K W σ S H (eChain F F' f g h ρ) Q' → tChain r r' ta tb tc σ H Q' := by
    intro Q' z
    refine qa σ ρ S H _ l s ((post_bind z).imp ?_)
    rintro v H1 ⟨d, S1, qs, e, g1, rp, z1⟩
    refine qb σ ρ S1 H1 _ (l.mono g1) g1.sh ((post_bind z1).imp ?_)
    rintro u H2 ⟨d2, S2, rs, e2, g2, rp2, z2⟩
    cases k : F d d2 with
    | none => rw [k] at z2; exact z2.elim
    | some d' =>
      rw [k] at z2
      refine o S2 H2 v u d d2 d' qs rs _ g2.sh (rp.mono g2.ss g2.hh) rp2 k ?_
      intro w S3 H3 ps g3 f3 rp3
      have z3 := PostE.on g3 z2
      cases d' with
      | bl kk =>
        cases rp3
        refine ⟨kk, rfl, ?_⟩
        cases kk with
        | true =>
          refine qc σ ρ S3 H3 _ ((l.mono g1).mono (g2.trans g3)) g3.sh ((post_bind (show PostE cl X.K W σ S3 H3 ((h ρ).bind fun z => Res.of (F' d2 z)) Q' from z3)).imp ?_)
          rintro w H4 ⟨d4, S4, ts, e4, g4, rp4, z4⟩
          cases k4 : F' d2 d4 with
          | none => rw [k4] at z4; exact z4.elim
          | some d5 =>
            rw [k4] at z4
            exact o' S4 H4 u w d2 d4 d5 rs ts Q' g4.sh (rp2.mono (g3.trans g4).ss (g3.trans g4).hh) rp4 k4 z4
        | false => exact z3 _ S3 H3 [] (Grow.refl g3.sh) Fresh.nil (.bl false)
      | _ => exact z3.elim
  refine key _ ?_
  cases k : eChain F F' f g h ρ with
  | no => rw [k] at z; exact z
  | ex c fs => rw [k] at z; exact z
  | ok d =>
    rw [k] at z
    cases d with
    | bl bb => exact fun v S' H' qs g _ rp => by cases rp; exact ⟨bb, rfl, z S' H' g⟩
    | _ => exact z.elim
theorem de_ix (hs : PlainIx b) (ha : DO cl X W a f) (hb : DO cl X W b g) : DE cl X W (.Subscript a b pos) (e2 fIx f g) := de_2 (fun _ _ h1 h2 => pe_ix ix_seq h1 h2 hs) o_ix ha hb
theorem de_isN {j : Nat} {p2 : Pos} (ha : DO cl X W a f) : DE cl X W (.Compare a [.Is] [.Constant .none j p2] pos) (e1 fIsN f) := by
  obtain ⟨ta, pa, qa⟩ := ha.pf
  refine ⟨_, pe_cmpR op_isN pa pe_non (nomark _), fun σ ρ S H Q l s z => ?_⟩
  refine qa σ ρ S H _ l s ((post_bind z).imp ?_)
  rintro v H1 ⟨d, S1, qs, e, g1, rp, z1⟩
  exact ⟨rfl, by rw [non_iff rp]; exact newV g1.sh (.bl _) z1⟩
theorem de_notN {j : Nat} {p2 : Pos} (ha : DO cl X W a f) : DE cl X W (.Compare a [.IsNot] [.Constant .none j p2] pos) (e1 fNotN f) := by
  obtain ⟨ta, pa, qa⟩ := ha.pf
  refine ⟨_, pe_cmpR op_notN pa pe_non (nomark _), fun σ ρ S H Q l s z => ?_⟩
  refine qa σ ρ S H _ l s ((post_bind z).imp ?_)
  rintro v H1 ⟨d, S1, qs, e, g1, rp, z1⟩
  exact ⟨rfl, by rw [non_iff rp]; exact newV g1.sh (.bl _) z1⟩
theorem dt_isN {j : Nat} {p2 : Pos} (ha : DO cl X W a f) : DT cl X W (.Compare a [.Is] [.Constant .none j p2] pos) (e1 fIsN f) := by
  obtain ⟨ta, pa, qa⟩ := ha.pf
  refine ⟨_, pt_cmpR op_isN pa pe_non (nomark _), fun σ ρ S H Q l s z => ?_⟩
  refine qa σ ρ S H _ l s ((post_bindT z).imp ?_)
  rintro v H1 ⟨d, S1, qs, e, g1, rp, z1⟩
  exact ⟨rfl, _, rfl, by rw [non_iff rp]; exact z1 S1 H1 (Grow.refl g1.sh)⟩
theorem dt_notN {j : Nat} {p2 : Pos} (ha : DO cl X W a f) : DT cl X W (.Compare a [.IsNot] [.Constant .none j p2] pos) (e1 fNotN f) := by
  obtain ⟨ta, pa, qa⟩ := ha.pf
  refine ⟨_, pt_cmpR op_notN pa pe_non (nomark _), fun σ ρ S H Q l s z => ?_⟩
  refine qa σ ρ S H _ l s ((post_bindT z).imp ?_)
  rintro v H1 ⟨d, S1, qs, e, g1, rp, z1⟩
  exact ⟨rfl, _, rfl, by rw [non_iff rp]; exact z1 S1 H1 (Grow.refl g1.sh)⟩
theorem o_isB : Op2 X rIsB (fun x y => match y with | .bl k => fIsB k x | _ => none) := by
  intro S H x y dx dy d ps qs Q s rx ry e k
  cases dy with
  | bl kb =>
    cases dx with
    | bl xb =>
      cases rx; cases ry
      simp [fIsB] at e
      subst e
      refine ⟨xb, kb, rfl, rfl, ?_⟩
      have e : decide (xb = kb) = (xb == kb) := by cases xb <;> cases kb <;> rfl
      first
        | (rw [e]; exact newV s (.bl _) k)
        | exact newV s (.bl _) k
    | _ => simp [fIsB] at e
  | _ => simp at e
theorem o_notB : Op2 X rNotB (fun x y => match y with | .bl k => fNotB k x | _ => none) := by
  intro S H x y dx dy d ps qs Q s rx ry e k
  cases dy with
  | bl kb =>
    cases dx with
    | bl xb =>
      cases rx; cases ry
      simp [fNotB] at e
      subst e
      refine ⟨xb, kb, rfl, rfl, ?_⟩
      have e : (!decide (xb = kb)) = (xb != kb) := by cases xb <;> cases kb <;> rfl
      first
        | (rw [e]; exact newV s (.bl _) k)
        | exact newV s (.bl _) k
    | _ => simp [fNotB] at e
  | _ => simp at e
theorem de_dnew : DE cl X W (.Dict [] [] pos) eD0 := by
  refine ⟨_, pe_dnewK, fun σ ρ S H Q l s z => fun p hp => ?_⟩
  refine z (.ref p) S _ [p] ((Grow.refl s).more (same_new hp)) ⟨by simp, fun q hq => ?_⟩ (.dicO upd_same ⟨rfl, fun _ z => nomatch z⟩ .nil)
  have e : q = p := by simpa using hq
  subst e
  exact ⟨hp, none_back s hp⟩
/-- {k: c} -/
theorem de_dc1 {k v : Expr} {kd : Sum Int Tx} {kv dv : V} {d : D} (pk : PE X k (tC (kV (kK kd)))) (pv' : PE X v (tC dv)) (hk : kOk kd) (rv : ∀ S H, Rp X.K S H dv d []) : DE cl X W (.Dict [some k] [v] pos) (eDc [kd] [d]) := by
  refine ⟨_, pe_disp (pps_cons pk pv' pps_nil) rfl rfl (fun z => by cases z) (by show 1 ≤ 15; decide), fun σ ρ S H Q l s z => fun p hp => ?_⟩
  refine ⟨upd_same, [(kK kd, dv)], rfl, (by show 1 ≤ 15; decide), ?_⟩
  have eu : ∀ o o', upd (upd H p o) p o' = upd H p o' := fun _ _ => upd_upd
  rw [eu]
  refine z (.ref p) S _ [p] ((Grow.refl s).more (same_new hp)) ⟨by simp, fun q hq => ?_⟩ (.dicO upd_same ⟨rfl, fun x hx => ?_⟩ ?_)
  · have e : q = p := by simpa using hq
    subst e
    exact ⟨hp, none_back s hp⟩
  · have e : x = kd := by simpa using hx
    subst e; exact hk
  · have := RpAll.cons (rv S (upd H p (.dK (mergeK [] [(kK kd, dv)])))) RpAll.nil
    exact this
end
end G


set_option maxHeartbeats 1000000
/-! Own layer, part 14: range with a step. -/
namespace G
open PySem L2
theorem rangeC_get {lo c : Int} {n i : Nat} {d : D} (h : (rangeC lo c n)[i]? = some d) : d = .int (lo + (i : Nat) * c) := by
  unfold rangeC at h
  rw [List.getElem?_map] at h
  obtain ⟨k, hk, rfl⟩ := Option.map_eq_some_iff.mp h
  obtain ⟨h1, h2⟩ := List.getElem?_eq_some_iff.mp hk
  rw [List.getElem_range] at h2
  rw [h2]
theorem rangeSize_up {i j c : Int} (hc : 0 < c) : Builtin.Range.rangeSize i j c = (turnsC i j c : Nat) := by
  unfold Builtin.Range.rangeSize turnsC
  rw [if_pos (by omega)]
  split
  · have e : j - i + c - 1 = (j - i - 1) + 1 * c := by omega
    rw [e, Int.add_mul_ediv_right _ _ (by omega)]
    have : 0 ≤ (j - i - 1) / c := Int.ediv_nonneg (by omega) (by omega)
    omega
  · have : (j - i + c - 1) / c ≤ 0 := by
      have : (j - i + c - 1) / c < 1 := Int.ediv_lt_of_lt_mul hc (by omega)
      omega
    omega
theorem small_up {i j c : Int} (h1 : fits62 i = true) (h2 : fits62 j = true) (hc : 0 < c) (hc2 : c < 1073741824) : Builtin.Range.small i j c = true := by
  simp only [fits62, Bool.and_eq_true, decide_eq_true_eq] at h1 h2
  have e : Builtin.Range.rangeSize i j c ≤ 9223372036854775807 ∧ 0 ≤ Builtin.Range.rangeSize i j c := by
    unfold Builtin.Range.rangeSize
    rw [if_pos (by omega)]
    split
    · have a1 : 0 ≤ (j - i - 1) / c := Int.ediv_nonneg (by omega) (by omega)
      have a2 : (j - i - 1) / c ≤ j - i - 1 := Int.ediv_le_self _ (by omega)
      omega
    · omega
  unfold Builtin.Range.small
  generalize Builtin.Range.rangeSize i j c = n at e
  simp only [Builtin.Range.rangeFitsLong, Bool.and_eq_true, Bool.or_eq_true, decide_eq_true_eq, beq_iff_eq]
  rw [if_pos (show c > 0 from hc)]
  simp only [Bool.and_eq_true, decide_eq_true_eq]
  omega
section
variable {cl : Cl} {X : Cx} {W : WX} {tg e a b c : Expr} {es : List Expr} {f g h : E} {fs : List E} {pos p : Pos}
theorem di_range3v {shr : Bool} (hg : Gl X "range") (hm : X.mg "range" = none) (ha : DO cl X W a f) (hb : DO cl X W b g) (hc : DO cl X W c h)
    (hs : starEach [a, b, c] X.env = (false, eval a X.env) :: starEach [b, c] X.env := by rfl) (hpl : (backTo pos (starEach [b, c] X.env)).any (·.1) = false := by rfl)
    (hs1 : starEach [b, c] X.env = [(false, eval b X.env), (false, eval c X.env)] := by rfl) (hs2 : starEach [c] X.env = [(false, eval c X.env)] := by rfl) :
    DI shr cl X W tg (.Call (.Name "range" p) [a, b, c] [] pos) (iRange3v f g h) := by
  obtain ⟨ta, pa, qa⟩ := ha.pf
  obtain ⟨tb, pb, qb⟩ := hb.pf
  obtain ⟨tc, pc, qc⟩ := hc.pf
  refine ⟨_, pi_range3 hg hm (pa_cons pa (pa_cons pb (pa_cons pc pa_nil hs2) (by rw [hs1, hs2])) (by rw [hs, hs1])) hs hpl, fun σ ρ S H R l s z => ?_⟩
  refine qa σ ρ S H _ l s ((post_bindI z).imp ?_)
  rintro v H1 ⟨d, S1, qs, e, g1, rp, z1⟩
  refine qb σ ρ S1 H1 _ (l.mono g1) g1.sh ((post_bindI z1).imp ?_)
  rintro u H2 ⟨d2, S2, rs, e2, g2, rp2, z2⟩
  refine qc σ ρ S2 H2 _ ((l.mono g1).mono g2) g2.sh ((post_bindI z2).imp ?_)
  rintro u3 H3 ⟨d3, S3, rs3, e3, g3, rp3, z3⟩
  cases d with
  | int i =>
    cases d2 with
    | int j =>
      cases d3 with
      | int k =>
        cases rp; cases rp2; cases rp3
        cases hf : (fits62 i && fits62 j && decide (0 < k) && decide (k < 1073741824)) with
        | false => simp only [hf] at z3; exact z3.elim
        | true =>
          simp only [hf, if_true] at z3
          simp only [Bool.and_eq_true, decide_eq_true_eq] at hf
          obtain ⟨⟨⟨f1, f2⟩, f3⟩, f4⟩ := hf
          refine ⟨i, j, k, turnsC i j k, rfl, ⟨by omega, by omega, small_up f1 f2 f3 f4, rangeSize_up f3⟩, z3 _ S3 H3 (fun _ => True) (YFn fun n => .int (i + (n : Nat) * k)) (Grow.refl g3.sh) (by rw [show (rangeC i k (turnsC i j k)).length = turnsC i j k by simp [rangeC]]; exact walk_rangeC) (fun _ _ => trivial) ?_⟩
          rintro m H2 x H3 S2 d s2 s3 s4 hd ⟨rfl, rfl⟩
          rw [rangeC_get hd]
          exact ⟨Same.refl _, [], .int _⟩
      | _ => exact z3.elim
    | _ => exact z3.elim
  | _ => exact z3.elim
end
end G


/-! Own layer: how denotations compute. -/
namespace G
section
variable {α β : Type}
@[simp] theorem bind_ok (a : α) (f : α → Res β) : (Res.ok a).bind f = f a := id rfl
@[simp] theorem bind_no (f : α → Res β) : (Res.no).bind f = .no := id rfl
@[simp] theorem bind_ex (c : String) (fs : List D) (f : α → Res β) : (Res.ex c fs).bind f = .ex c fs := id rfl
@[simp] theorem of_some (a : α) : Res.of (some a) = .ok a := id rfl
@[simp] theorem of_none : (Res.of (none : Option α)) = .no := id rfl
@[simp] theorem nox_ok' (a : α) : (Res.ok a).nox = .ok a := id rfl
@[simp] theorem sE_ok (a : α) (ρ : Env) (k : α → Out) : sE (.ok a) ρ k = k a := id rfl
@[simp] theorem sE_ex (c : String) (fs : List D) (ρ : Env) (k : α → Out) : sE (.ex c fs) ρ k = .xc c fs ρ := id rfl
end
/-- by a truth value -/
def onB {α : Type} (d : D) (x y z : α) : α := match d with
  | .bl true => x
  | .bl false => y
  | _ => z
@[simp] theorem onB_bl {α : Type} (b : Bool) (x y z : α) : onB (.bl b) x y z = if b = true then x else y := by cases b <;> rfl
@[simp] theorem ite_ok {α : Type} (p : Prop) [Decidable p] (x y : α) : (if p then Res.ok x else Res.ok y) = Res.ok (if p then x else y) := by split <;> rfl
@[simp] theorem ite_bl (p : Prop) [Decidable p] (x y : Bool) : (if p then D.bl x else D.bl y) = D.bl (if p then x else y) := by split <;> rfl
@[simp] theorem ite_int (p : Prop) [Decidable p] (x y : Int) : (if p then D.int x else D.int y) = D.int (if p then x else y) := by split <;> rfl
@[simp] theorem ite_str (p : Prop) [Decidable p] (x y : Tx) : (if p then D.str x else D.str y) = D.str (if p then x else y) := by split <;> rfl
@[simp] theorem get_0 (d : D) (ρ : Env) : get (some d :: ρ) 0 = .ok d := id rfl
@[simp] theorem get_s (x : Option D) (ρ : Env) (n : Nat) : get (x :: ρ) (n + 1) = get ρ n := id rfl
@[simp] theorem put_0 (x : Option D) (ρ : Env) (d : D) : put (x :: ρ) 0 d = some d :: ρ := id rfl
@[simp] theorem put_s (x : Option D) (ρ : Env) (n : Nat) (d : D) : put (x :: ρ) (n + 1) d = x :: put ρ n d := id rfl
@[simp] theorem clr_nil (ρ : Env) : clr [] ρ = ρ := id rfl
@[simp] theorem clr_cons (v : Nat) (vs : List Nat) (ρ : Env) : clr (v :: vs) ρ = (clr vs ρ).set v none := id rfl
@[simp] theorem eC_ap (d : D) (ρ : Env) : eC d ρ = .ok d := id rfl
@[simp] theorem eO_ap (i : Nat) (ρ : Env) : eO i ρ = get ρ i := id rfl
@[simp] theorem eV_ap (i : Nat) (ρ : Env) : eV i ρ = (get ρ i).bind fun d => if d.sh then .ok d else .no := id rfl
@[simp] theorem eFrz_ap (e : E) (ρ : Env) : eFrz e ρ = (e ρ).bind fun d => .ok d.frz := id rfl
@[simp] theorem e1_ap (f : D → Option D) (a : E) (ρ : Env) : e1 f a ρ = (a ρ).bind fun x => Res.of (f x) := id rfl
@[simp] theorem e2_ap (f : D → D → Option D) (a b : E) (ρ : Env) : e2 f a b ρ = (a ρ).bind fun x => (b ρ).bind fun y => Res.of (f x y) := id rfl
@[simp] theorem e2s_ap (f : D → D → Option D) (a b : E) (ρ : Env) : e2s f a b ρ = (a ρ).bind fun x => if x.isS then (b ρ).bind fun y => Res.of (f x y) else .no := id rfl
@[simp] theorem eAnd_ap (a b : E) (ρ : Env) : eAnd a b ρ = (a ρ).bind fun x => onB x (b ρ) (.ok (.bl false)) .no := by
  unfold eAnd onB; rfl
@[simp] theorem eOr_ap (a b : E) (ρ : Env) : eOr a b ρ = (a ρ).bind fun x => onB x (.ok (.bl true)) (b ρ) .no := by
  unfold eOr onB; rfl
@[simp] theorem eNot_ap (a : E) (ρ : Env) : eNot a ρ = (a ρ).bind fun x => Res.of (fNot x) := id rfl
@[simp] theorem eIf_ap (c a b : E) (ρ : Env) : eIf c a b ρ = (c ρ).bind fun x => onB x (a ρ) (b ρ) .no := by
  unfold eIf onB; rfl
@[simp] theorem eChain_ap (f g : D → D → Option D) (a b c : E) (ρ : Env) : eChain f g a b c ρ = (a ρ).bind fun x => (b ρ).bind fun y => (Res.of (f x y)).bind fun k => onB k ((c ρ).bind fun z => Res.of (g y z)) (.ok (.bl false)) .no := by
  unfold eChain onB; rfl
@[simp] theorem eArgs_nil (ρ : Env) : eArgs [] ρ = .ok [] := id rfl
@[simp] theorem eArgs_cons (e : E) (es : List E) (ρ : Env) : eArgs (e :: es) ρ = (e ρ).bind fun d => (eArgs es ρ).bind fun ds => .ok (d :: ds) := id rfl
@[simp] theorem eL_ap (es : List E) (ρ : Env) : eL es ρ = (eArgs es ρ).bind fun ds => .ok (.lst true ds) := id rfl
@[simp] theorem eT_ap (es : List E) (ρ : Env) : eT es ρ = (eArgs es ρ).bind fun ds => .ok (.tup true ds) := id rfl
@[simp] theorem eD0_ap (ρ : Env) : eD0 ρ = .ok (.dic true [] []) := id rfl
@[simp] theorem eDc_ap (ks : List (Sum Int Tx)) (ds : List D) (ρ : Env) : eDc ks ds ρ = .ok (.dic true ks ds) := id rfl
@[simp] theorem eCall_ap (f : List D → Res D) (es : List E) (ρ : Env) : eCall f es ρ = (eArgs es ρ).bind fun ds => (f (frzs ds)).bind fun r => if r.ow || shs ds then .ok r else .no := id rfl
@[simp] theorem eCall0_ap (f : List D → Res D) (ρ : Env) : eCall0 f ρ = (f []).nox := id rfl
@[simp] theorem eSl_ap (a : E) (ρ : Env) : eSl a ρ = (a ρ).bind fun x => Res.of (cutD x none none) := id rfl
@[simp] theorem eSlLo_ap (a lo : E) (ρ : Env) : eSlLo a lo ρ = (a ρ).bind fun x => (lo ρ).bind fun l => match l with
  | .int i => Res.of (cutD x (some i) none)
  | _ => .no := id rfl
@[simp] theorem eSlHi_ap (a hi : E) (ρ : Env) : eSlHi a hi ρ = (a ρ).bind fun x => (hi ρ).bind fun l => match l with
  | .int i => Res.of (cutD x none (some i))
  | _ => .no := id rfl
@[simp] theorem eSlLH_ap (a lo hi : E) (ρ : Env) : eSlLH a lo hi ρ = (a ρ).bind fun x => (lo ρ).bind fun l => match l with
  | .int i => (hi ρ).bind fun h => match h with
    | .int j => Res.of (cutD x (some i) (some j))
    | _ => .no
  | _ => .no := id rfl
@[simp] theorem eComp_ap (vs : List Nat) (it : I) (b : B) (c e : E) (ρ : Env) : eComp vs it b c e ρ = (it ρ).bind fun xs => (compL b c e (clr vs ρ) xs).bind fun ys => if ys.length ≤ LINE then .ok (.lst true ys) else .no := id rfl
@[simp] theorem iLst_ap (e : E) (ρ : Env) : iLst e ρ = (e ρ).bind fun d => match d with
  | .lst _ xs => .ok xs
  | .scr ns => .ok (ns.map .int)
  | _ => .no := id rfl
@[simp] theorem iLstS_ap (e : E) (ρ : Env) : iLstS e ρ = (e ρ).bind fun d => match d with
  | .lst false xs => .ok xs
  | .scr ns => .ok (ns.map .int)
  | _ => .no := id rfl
@[simp] theorem iTup_ap (e : E) (ρ : Env) : iTup e ρ = (e ρ).bind fun d => match d with
  | .tup _ xs => .ok xs
  | _ => .no := id rfl
@[simp] theorem iTupS_ap (e : E) (ρ : Env) : iTupS e ρ = (e ρ).bind fun d => match d with
  | .tup false xs => .ok xs
  | _ => .no := id rfl
@[simp] theorem iStr_ap (e : E) (ρ : Env) : iStr e ρ = (e ρ).bind fun d => match d with
  | .str s => .ok (s.map fun c => .str [c])
  | _ => .no := id rfl
@[simp] theorem iRange1_ap (e : E) (ρ : Env) : iRange1 e ρ = (e ρ).bind fun d => match d with
  | .int n => if fits62 n then .ok (rangeD 0 n.toNat) else .no
  | _ => .no := id rfl
@[simp] theorem iRange2_ap (a b : E) (ρ : Env) : iRange2 a b ρ = (a ρ).bind fun x => (b ρ).bind fun y => match x, y with
  | .int i, .int j => if fits62 i && fits62 j then .ok (rangeD i (j - i).toNat) else .no
  | _, _ => .no := id rfl
@[simp] theorem iRange3_ap (a b : E) (c : Int) (ρ : Env) : iRange3 a b c ρ = (a ρ).bind fun x => (b ρ).bind fun y => match x, y with
  | .int i, .int j => if fits62 i && fits62 j && decide (0 < c) && decide (c < 1073741824) then .ok (rangeC i c (turnsC i j c)) else .no
  | _, _ => .no := id rfl
@[simp] theorem iEnum_ap (i : I) (ρ : Env) : iEnum i ρ = (i ρ).bind fun xs => .ok (enumFrom 0 xs) := id rfl
@[simp] theorem sPass_ap (ρ : Env) : sPass ρ = .nx ρ := id rfl
@[simp] theorem sBreak_ap (ρ : Env) : sBreak ρ = .bk ρ := id rfl
@[simp] theorem sCont_ap (ρ : Env) : sCont ρ = .ct ρ := id rfl
@[simp] theorem sSet_ap (i : Nat) (e : E) (ρ : Env) : sSet i e ρ = sE (e ρ) ρ fun d => .nx (put ρ i d) := id rfl
@[simp] theorem sBind_ap (b : B) (e : E) (ρ : Env) : sBind b e ρ = sE (e ρ) ρ fun d => sE (b d ρ).nox ρ fun ρ1 => .nx ρ1 := id rfl
@[simp] theorem then_nx (ρ : Env) (b : Sd) : (Out.nx ρ).then b = b ρ := id rfl
@[simp] theorem then_rt (d : D) (b : Sd) : (Out.rt d).then b = .rt d := id rfl
@[simp] theorem then_xc (c : String) (fs : List D) (ρ : Env) (b : Sd) : (Out.xc c fs ρ).then b = .xc c fs ρ := id rfl
@[simp] theorem then_bk (ρ : Env) (b : Sd) : (Out.bk ρ).then b = .bk ρ := id rfl
@[simp] theorem then_ct (ρ : Env) (b : Sd) : (Out.ct ρ).then b = .ct ρ := id rfl
@[simp] theorem sSeq_ap (a b : Sd) (ρ : Env) : sSeq a b ρ = (a ρ).then b := id rfl
@[simp] theorem sIf_ap (c : E) (a b : Sd) (ρ : Env) : sIf c a b ρ = sE (c ρ) ρ fun x => onB x (a ρ) (b ρ) .no := by
  unfold sIf onB; rfl
@[simp] theorem sRet_ap (e : E) (ρ : Env) : sRet e ρ = sE (e ρ) ρ fun d => .rt d := id rfl
@[simp] theorem sRetN_ap (ρ : Env) : sRetN ρ = .rt .non := id rfl
@[simp] theorem sRetM_ap (i : Nat) (ρ : Env) : sRetM i ρ = sE (get ρ i) ρ fun d => .rt d := id rfl
@[simp] theorem sDrop_ap (e : E) (ρ : Env) : sDrop e ρ = sE (e ρ) ρ fun _ => .nx ρ := id rfl
@[simp] theorem sFrz_ap (i : Nat) (s : Sd) (ρ : Env) : sFrz i s ρ = sE (get ρ i) ρ fun d => s (put ρ i d.frz) := id rfl
@[simp] theorem sApp_ap (i : Nat) (e : E) (ρ : Env) : sApp i e ρ = sE (get ρ i) ρ fun l => match l with
  | .lst true xs => sE (e ρ) ρ fun d => if xs.length < LINE then .nx (put ρ i (.lst true (xs ++ [d]))) else .no
  | _ => .no := id rfl
@[simp] theorem sExt_ap (i : Nat) (e : E) (ρ : Env) : sExt i e ρ = sE (get ρ i) ρ fun l => match l with
  | .lst true xs => sE (e ρ) ρ fun d => match d with
    | .lst _ ys => if xs.length + ys.length ≤ LINE then .nx (put ρ i (.lst true (xs ++ ys))) else .no
    | _ => .no
  | _ => .no := id rfl
@[simp] theorem sFor_ap (it : I) (b : B) (body : Sd) (ρ : Env) : sFor it b body ρ = sE (it ρ) ρ fun xs => forL b body xs ρ := id rfl
@[simp] theorem endF_rt (d : D) : endF (.rt d) = .ok d := id rfl
@[simp] theorem endF_nx (ρ : Env) : endF (.nx ρ) = .ok .non := id rfl
@[simp] theorem endF_xc (c : String) (fs : List D) (ρ : Env) : endF (.xc c fs ρ) = .ex c fs := id rfl
@[simp] theorem loop_nx (ρ : Env) (k : Env → Out) : (Out.nx ρ).loop k = k ρ := id rfl
@[simp] theorem loop_ct (ρ : Env) (k : Env → Out) : (Out.ct ρ).loop k = k ρ := id rfl
@[simp] theorem loop_bk (ρ : Env) (k : Env → Out) : (Out.bk ρ).loop k = .nx ρ := id rfl
@[simp] theorem loop_rt (d : D) (k : Env → Out) : (Out.rt d).loop k = .rt d := id rfl
@[simp] theorem loop_xc (c : String) (fs : List D) (ρ : Env) (k : Env → Out) : (Out.xc c fs ρ).loop k = .xc c fs ρ := id rfl
@[simp] theorem bN_ap (i : Nat) (d : D) (ρ : Env) : bN i d ρ = if d.sh then .ok (put ρ i d) else .no := id rfl
@[simp] theorem cN_ap (i : Nat) (d : D) (ρ : Env) : cN i d ρ = .ok (put ρ i d) := id rfl
@[simp] theorem bT_ap (is : List Nat) (o : Bool) (ds : List D) (ρ : Env) : bT is (.tup o ds) ρ = bNs is ds ρ := id rfl
@[simp] theorem cT_ap (is : List Nat) (o : Bool) (ds : List D) (ρ : Env) : cT is (.tup o ds) ρ = cNs is ds ρ := id rfl
@[simp] theorem bNs_nil (ρ : Env) : bNs [] [] ρ = .ok ρ := id rfl
@[simp] theorem bNs_cons (i : Nat) (is : List Nat) (d : D) (ds : List D) (ρ : Env) : bNs (i :: is) (d :: ds) ρ = if d.sh then bNs is ds (put ρ i d) else .no := id rfl
@[simp] theorem cNs_nil (ρ : Env) : cNs [] [] ρ = .ok ρ := id rfl
@[simp] theorem cNs_cons (i : Nat) (is : List Nat) (d : D) (ds : List D) (ρ : Env) : cNs (i :: is) (d :: ds) ρ = cNs is ds (put ρ i d) := id rfl
/-! flags -/
@[simp] theorem sh_non : D.sh .non = true := by simp [D.sh]
@[simp] theorem sh_bl (b : Bool) : D.sh (.bl b) = true := by simp [D.sh]
@[simp] theorem sh_int (i : Int) : D.sh (.int i) = true := by simp [D.sh]
@[simp] theorem sh_str (s : Tx) : D.sh (.str s) = true := by simp [D.sh]
@[simp] theorem sh_scr (s : List Int) : D.sh (.scr s) = true := by simp [D.sh]
@[simp] theorem sh_lst (o : Bool) (xs : List D) : D.sh (.lst o xs) = (!o && shs xs) := by simp [D.sh]
@[simp] theorem sh_tup (o : Bool) (xs : List D) : D.sh (.tup o xs) = (!o && shs xs) := by simp [D.sh]
@[simp] theorem sh_dic (o : Bool) (ks : List (Sum Int Tx)) (xs : List D) : D.sh (.dic o ks xs) = (!o && shs xs) := by simp [D.sh]
@[simp] theorem shs_nil : shs [] = true := id rfl
@[simp] theorem shs_cons (x : D) (xs : List D) : shs (x :: xs) = (x.sh && shs xs) := id rfl
@[simp] theorem ow_non : D.ow .non = true := by simp [D.ow]
@[simp] theorem ow_bl (b : Bool) : D.ow (.bl b) = true := by simp [D.ow]
@[simp] theorem ow_int (i : Int) : D.ow (.int i) = true := by simp [D.ow]
@[simp] theorem ow_str (s : Tx) : D.ow (.str s) = true := by simp [D.ow]
@[simp] theorem ow_lst (o : Bool) (xs : List D) : D.ow (.lst o xs) = (o && ows xs) := by simp [D.ow]
@[simp] theorem ow_tup (o : Bool) (xs : List D) : D.ow (.tup o xs) = (o && ows xs) := by simp [D.ow]
@[simp] theorem ows_nil : ows [] = true := id rfl
@[simp] theorem ows_cons (x : D) (xs : List D) : ows (x :: xs) = (x.ow && ows xs) := id rfl
@[simp] theorem frz_non : D.frz .non = .non := by simp [D.frz]
@[simp] theorem frz_bl (b : Bool) : D.frz (.bl b) = .bl b := by simp [D.frz]
@[simp] theorem frz_int (i : Int) : D.frz (.int i) = .int i := by simp [D.frz]
@[simp] theorem frz_str (s : Tx) : D.frz (.str s) = .str s := by simp [D.frz]
@[simp] theorem frz_scr (s : List Int) : D.frz (.scr s) = .scr s := by simp [D.frz]
@[simp] theorem frz_lst (o : Bool) (xs : List D) : D.frz (.lst o xs) = .lst false (frzs xs) := by simp [D.frz]
@[simp] theorem frz_tup (o : Bool) (xs : List D) : D.frz (.tup o xs) = .tup false (frzs xs) := by simp [D.frz]
@[simp] theorem frz_dic (o : Bool) (ks : List (Sum Int Tx)) (xs : List D) : D.frz (.dic o ks xs) = .dic false ks (frzs xs) := by simp [D.frz]
@[simp] theorem frzs_nil : frzs [] = [] := id rfl
@[simp] theorem frzs_cons (x : D) (xs : List D) : frzs (x :: xs) = x.frz :: frzs xs := id rfl
@[simp] theorem pl_non : D.pl .non = true := by simp [D.pl]
@[simp] theorem pl_bl (b : Bool) : D.pl (.bl b) = true := by simp [D.pl]
@[simp] theorem pl_int (i : Int) : D.pl (.int i) = true := by simp [D.pl]
@[simp] theorem pl_str (s : Tx) : D.pl (.str s) = true := by simp [D.pl]
@[simp] theorem pl_lst (o : Bool) (xs : List D) : D.pl (.lst o xs) = pls xs := by simp [D.pl]
@[simp] theorem pl_tup (o : Bool) (xs : List D) : D.pl (.tup o xs) = pls xs := by simp [D.pl]
@[simp] theorem pls_nil : pls [] = true := id rfl
@[simp] theorem pls_cons (x : D) (xs : List D) : pls (x :: xs) = (x.pl && pls xs) := id rfl
@[simp] theorem dep_non : D.dep .non = 0 := by simp [D.dep]
@[simp] theorem dep_bl (b : Bool) : D.dep (.bl b) = 0 := by simp [D.dep]
@[simp] theorem dep_int (i : Int) : D.dep (.int i) = 0 := by simp [D.dep]
@[simp] theorem dep_str (s : Tx) : D.dep (.str s) = 0 := by simp [D.dep]
@[simp] theorem dep_lst (o : Bool) (xs : List D) : D.dep (.lst o xs) = deps xs + 1 := by simp [D.dep]
@[simp] theorem dep_tup (o : Bool) (xs : List D) : D.dep (.tup o xs) = deps xs + 1 := by simp [D.dep]
@[simp] theorem deps_nil : deps [] = 0 := id rfl
@[simp] theorem deps_cons (x : D) (xs : List D) : deps (x :: xs) = max x.dep (deps xs) := id rfl
section
variable {α : Type} (f : α → D) (xs : List α)
theorem shs_map (h : ∀ a, (f a).sh = true) : shs (xs.map f) = true := by
  induction xs with
  | nil => rfl
  | cons a l ih => simp [h a, ih]
theorem ows_map (h : ∀ a, (f a).ow = true) : ows (xs.map f) = true := by
  induction xs with
  | nil => rfl
  | cons a l ih => simp [h a, ih]
theorem pls_map (h : ∀ a, (f a).pl = true) : pls (xs.map f) = true := by
  induction xs with
  | nil => rfl
  | cons a l ih => simp [h a, ih]
theorem deps_map (h : ∀ a, (f a).dep = 0) : deps (xs.map f) = 0 := by
  induction xs with
  | nil => rfl
  | cons a l ih => simp [h a, ih]
theorem frzs_of (h : ∀ a, (f a).frz = f a) : frzs (xs.map f) = xs.map f := by
  induction xs with
  | nil => rfl
  | cons a l ih => simp [h a, ih]
end
@[simp] theorem shs_str (l : List Tx) : shs (l.map .str) = true := shs_map _ _ fun _ => by simp
@[simp] theorem shs_int (l : List Int) : shs (l.map .int) = true := shs_map _ _ fun _ => by simp
@[simp] theorem shs_bl (l : List Bool) : shs (l.map .bl) = true := shs_map _ _ fun _ => by simp
@[simp] theorem ows_str (l : List Tx) : ows (l.map .str) = true := ows_map _ _ fun _ => by simp
@[simp] theorem ows_int (l : List Int) : ows (l.map .int) = true := ows_map _ _ fun _ => by simp
@[simp] theorem ows_bl (l : List Bool) : ows (l.map .bl) = true := ows_map _ _ fun _ => by simp
@[simp] theorem pls_str (l : List Tx) : pls (l.map .str) = true := pls_map _ _ fun _ => by simp
@[simp] theorem pls_int (l : List Int) : pls (l.map .int) = true := pls_map _ _ fun _ => by simp
@[simp] theorem pls_bl (l : List Bool) : pls (l.map .bl) = true := pls_map _ _ fun _ => by simp
@[simp] theorem deps_str (l : List Tx) : deps (l.map .str) = 0 := deps_map _ _ fun _ => by simp
@[simp] theorem deps_int (l : List Int) : deps (l.map .int) = 0 := deps_map _ _ fun _ => by simp
@[simp] theorem deps_bl (l : List Bool) : deps (l.map .bl) = 0 := deps_map _ _ fun _ => by simp
@[simp] theorem frzs_str (l : List Tx) : frzs (l.map .str) = l.map .str := frzs_of _ _ fun _ => by simp
@[simp] theorem frzs_int (l : List Int) : frzs (l.map .int) = l.map .int := frzs_of _ _ fun _ => by simp
@[simp] theorem frzs_bl (l : List Bool) : frzs (l.map .bl) = l.map .bl := frzs_of _ _ fun _ => by simp
section
variable {α : Type} (f : α → Tx) (g : α → Int) (h : α → Bool) (l : List α)
@[simp] theorem shs_strf : shs (l.map fun a => .str (f a)) = true := shs_map _ _ fun _ => by simp
@[simp] theorem ows_strf : ows (l.map fun a => .str (f a)) = true := ows_map _ _ fun _ => by simp
@[simp] theorem pls_strf : pls (l.map fun a => .str (f a)) = true := pls_map _ _ fun _ => by simp
@[simp] theorem deps_strf : deps (l.map fun a => .str (f a)) = 0 := deps_map _ _ fun _ => by simp
@[simp] theorem frzs_strf : frzs (l.map fun a => .str (f a)) = l.map fun a => .str (f a) := frzs_of _ _ fun _ => by simp
@[simp] theorem shs_intf : shs (l.map fun a => .int (g a)) = true := shs_map _ _ fun _ => by simp
@[simp] theorem ows_intf : ows (l.map fun a => .int (g a)) = true := ows_map _ _ fun _ => by simp
@[simp] theorem pls_intf : pls (l.map fun a => .int (g a)) = true := pls_map _ _ fun _ => by simp
@[simp] theorem deps_intf : deps (l.map fun a => .int (g a)) = 0 := deps_map _ _ fun _ => by simp
@[simp] theorem frzs_intf : frzs (l.map fun a => .int (g a)) = l.map fun a => .int (g a) := frzs_of _ _ fun _ => by simp
@[simp] theorem shs_blf : shs (l.map fun a => .bl (h a)) = true := shs_map _ _ fun _ => by simp
@[simp] theorem ows_blf : ows (l.map fun a => .bl (h a)) = true := ows_map _ _ fun _ => by simp
@[simp] theorem pls_blf : pls (l.map fun a => .bl (h a)) = true := pls_map _ _ fun _ => by simp
@[simp] theorem deps_blf : deps (l.map fun a => .bl (h a)) = 0 := deps_map _ _ fun _ => by simp
end
@[simp] theorem strsD_map (l : List Tx) : strsD (l.map .str) = some l := by
  induction l with
  | nil => rfl
  | cons a l ih => simp [strsD, ih]
@[simp] theorem intsD_map (l : List Int) : intsD (l.map .int) = some l := by
  induction l with
  | nil => rfl
  | cons a l ih => simp [intsD, ih]
@[simp] theorem boolsD_map (l : List Bool) : boolsD (l.map .bl) = some l := by
  induction l with
  | nil => rfl
  | cons a l ih => simp [boolsD, ih]
@[simp] theorem boolsD_mapf {α : Type} (f : α → Bool) (l : List α) : boolsD (l.map fun a => .bl (f a)) = some (l.map f) := by
  induction l with
  | nil => rfl
  | cons a l ih => simp [boolsD, ih]
@[simp] theorem intsD_mapf {α : Type} (f : α → Int) (l : List α) : intsD (l.map fun a => .int (f a)) = some (l.map f) := by
  induction l with
  | nil => rfl
  | cons a l ih => simp [intsD, ih]
@[simp] theorem strsD_mapf {α : Type} (f : α → Tx) (l : List α) : strsD (l.map fun a => .str (f a)) = some (l.map f) := by
  induction l with
  | nil => rfl
  | cons a l ih => simp [strsD, ih]
@[simp] theorem allFl_str (l : List Tx) : allFl (l.map .str) = true := by
  induction l with
  | nil => rfl
  | cons a l ih => simp [allFl, D.fl, ih]
@[simp] theorem allFl_int (l : List Int) : allFl (l.map .int) = true := by
  induction l with
  | nil => rfl
  | cons a l ih => simp [allFl, D.fl, ih]
@[simp] theorem eqvs_str : ∀ (a b : List Tx), eqvs (a.map .str) (b.map .str) = decide (a = b)
  | [], [] => rfl
  | [], b :: bs => by simp [eqvs]
  | a :: as, [] => by simp [eqvs]
  | a :: as, b :: bs => by
    simp only [List.map_cons, eqvs, eqvs_str as bs, D.eqv]
    by_cases h : a = b
    · subst h; simp
    · simp [h]
@[simp] theorem eqvs_int : ∀ (a b : List Int), eqvs (a.map .int) (b.map .int) = decide (a = b)
  | [], [] => rfl
  | [], b :: bs => by simp [eqvs]
  | a :: as, [] => by simp [eqvs]
  | a :: as, b :: bs => by
    simp only [List.map_cons, eqvs, eqvs_int as bs, D.eqv]
    by_cases h : a = b
    · subst h; simp
    · simp [h]
@[simp] theorem memD_str (x : Tx) (l : List Tx) : memD (.str x) (l.map .str) = decide (x ∈ l) := by
  induction l with
  | nil => rfl
  | cons a l ih =>
    simp only [List.map_cons, memD, ih, D.eqv]
    by_cases h : a = x
    · subst h; simp
    · simp [h, Ne.symm h]
@[simp] theorem subT_one (c : Nat) (l : Tx) : subT [c] l = decide (c ∈ l) := by
  induction l with
  | nil => rfl
  | cons a l ih =>
    simp only [subT, preT, ih]
    by_cases h : a = c
    · subst h; simp
    · simp [h, Ne.symm h]

@[simp] theorem fNot_bl (b : Bool) : fNot (.bl b) = some (.bl (!b)) := id rfl
theorem isEmpty_filter {α : Type} (p : α → Bool) (l : List α) : (l.filter fun a => !p a).isEmpty = l.all p := by
  induction l with
  | nil => rfl
  | cons a l ih => cases h : p a <;> simp_all
@[simp] theorem fAdd_int (i j : Int) : fAdd (.int i) (.int j) = some (.int (i + j)) := id rfl
@[simp] theorem fAdd_str (a b : Tx) : fAdd (.str a) (.str b) = if a.length + b.length ≤ LINE then some (.str (a ++ b)) else none := id rfl
@[simp] theorem fSub_int (i j : Int) : fSub (.int i) (.int j) = some (.int (i - j)) := id rfl
@[simp] theorem fNeg_int (i : Int) : fNeg (.int i) = some (.int (-i)) := id rfl
@[simp] theorem fDiv_int (i j : Int) (h : 0 < j) (h2 : j < 1073741824) : fDiv (.int i) (.int j) = some (.int (i / j)) := by simp [fDiv, h, h2]
@[simp] theorem fMod_int (i j : Int) (h : 0 < j) : fMod (.int i) (.int j) = some (.int (i % j)) := by simp [fMod, h]
@[simp] theorem fLt_int (i j : Int) : fLt (.int i) (.int j) = some (.bl (decide (i < j))) := id rfl
@[simp] theorem fLe_int (i j : Int) : fLe (.int i) (.int j) = some (.bl (decide (i ≤ j))) := id rfl
@[simp] theorem fGt_int (i j : Int) : fGt (.int i) (.int j) = some (.bl (decide (j < i))) := id rfl
@[simp] theorem fGe_int (i j : Int) : fGe (.int i) (.int j) = some (.bl (decide (j ≤ i))) := id rfl
@[simp] theorem fInt_bl (b : Bool) : fInt (.bl b) = some (.int (if b then 1 else 0)) := id rfl
@[simp] theorem fInt_int (i : Int) : fInt (.int i) = some (.int i) := id rfl
@[simp] theorem fLen_lst (o : Bool) (xs : List D) : fLen (.lst o xs) = some (.int (xs.length : Nat)) := id rfl
@[simp] theorem fLen_tup (o : Bool) (xs : List D) : fLen (.tup o xs) = some (.int (xs.length : Nat)) := id rfl
@[simp] theorem fLen_scr (ns : List Int) : fLen (.scr ns) = some (.int (ns.length : Nat)) := id rfl
@[simp] theorem fLen_str (s : Tx) (h : s.length ≤ LINE) : fLen (.str s) = some (.int (s.length : Nat)) := by simp [fLen, h]
@[simp] theorem isS_str (s : Tx) : D.isS (.str s) = true := id rfl
@[simp] theorem fIn_ss (a b : Tx) : fIn (.str a) (.str b) = some (.bl (subT a b)) := id rfl
@[simp] theorem fNin_ss (a b : Tx) : fNin (.str a) (.str b) = some (.bl (!subT a b)) := id rfl
@[simp] theorem eqvs_nil_r (xs : List D) : eqvs xs [] = xs.isEmpty := by cases xs <;> simp [eqvs]
@[simp] theorem eqvs_nil_l (xs : List D) : eqvs [] xs = xs.isEmpty := by cases xs <;> simp [eqvs]
@[simp] theorem eqv_lst (o p : Bool) (xs ys : List D) : D.eqv (.lst o xs) (.lst p ys) = eqvs xs ys := by simp [D.eqv]
@[simp] theorem eqv_tup (o p : Bool) (xs ys : List D) : D.eqv (.tup o xs) (.tup p ys) = eqvs xs ys := by simp [D.eqv]
@[simp] theorem eqv_str (a b : Tx) : D.eqv (.str a) (.str b) = decide (a = b) := by
  simp only [D.eqv]
  by_cases h : a = b <;> simp [h]
@[simp] theorem eqv_int (a b : Int) : D.eqv (.int a) (.int b) = decide (a = b) := by
  simp only [D.eqv]
  by_cases h : a = b <;> simp [h]
@[simp] theorem eqv_bl (a b : Bool) : D.eqv (.bl a) (.bl b) = (a == b) := by simp only [D.eqv]
@[simp] theorem eqvs_cons (x y : D) (xs ys : List D) : eqvs (x :: xs) (y :: ys) = (x.eqv y && eqvs xs ys) := by simp only [eqvs]
@[simp] theorem fEq_pl {a b : D} (h1 : a.pl = true) (h2 : b.pl = true) (h3 : a.dep ≤ 64) (h4 : b.dep ≤ 64) : fEq a b = some (.bl (a.eqv b)) := by simp [fEq, h1, h2, h3, h4]
@[simp] theorem fNe_pl {a b : D} (h1 : a.pl = true) (h2 : b.pl = true) (h3 : a.dep ≤ 64) (h4 : b.dep ≤ 64) : fNe a b = some (.bl (!a.eqv b)) := by simp [fNe, h1, h2, h3, h4]
/-! comprehensions -/
theorem compL_map {j : Nat} {e : E} {ρ : Env} {g : D → D} : ∀ (xs : List D), (∀ x ∈ xs, e (put ρ j x) = .ok (g x)) → compL (cN j) eYes e ρ xs = .ok (xs.map g)
  | [], _ => rfl
  | x :: xs, h => by
    have h1 := h x (List.mem_cons_self ..)
    have h2 := compL_map xs fun y hy => h y (List.mem_cons_of_mem _ hy)
    simp [compL, eYes, h1, h2]
theorem compL_filter {j : Nat} {c e : E} {ρ : Env} {p : D → Bool} {g : D → D} : ∀ (xs : List D), (∀ x ∈ xs, c (put ρ j x) = .ok (.bl (p x)) ∧ e (put ρ j x) = .ok (g x)) → compL (cN j) c e ρ xs = .ok ((xs.filter p).map g)
  | [], _ => rfl
  | x :: xs, h => by
    obtain ⟨h0, h1⟩ := h x (List.mem_cons_self ..)
    have h2 := compL_filter xs fun y hy => h y (List.mem_cons_of_mem _ hy)
    cases hp : p x <;> simp [compL, h0, h1, h2, hp]
theorem compL_map2 {i j : Nat} {e : E} {ρ : Env} {α : Type} {t : α → D} {f1 f2 : α → D} {g : α → D} (ht : ∀ a, ∃ o, t a = .tup o [f1 a, f2 a]) : ∀ (xs : List α), (∀ x ∈ xs, e (put (put ρ i (f1 x)) j (f2 x)) = .ok (g x)) → compL (cT [i, j]) eYes e ρ (xs.map t) = .ok (xs.map g)
  | [], _ => rfl
  | x :: xs, h => by
    have h1 := h x (List.mem_cons_self ..)
    have h2 := compL_map2 ht xs fun y hy => h y (List.mem_cons_of_mem _ hy)
    obtain ⟨o, ho⟩ := ht x
    simp [compL, eYes, ho, h1, h2]

/-! loops -/
theorem forL_inv {b : B} {body : Sd} (I : Nat → Env → Prop) : ∀ (xs : List D) (k : Nat) (ρ : Env), I k ρ → (∀ i x ρ, xs[i]? = some x → I (k + i) ρ → ∃ ρ1 ρ2, b x ρ = .ok ρ1 ∧ (body ρ1 = .nx ρ2 ∨ body ρ1 = .ct ρ2) ∧ I (k + i + 1) ρ2) → ∃ ρ2, forL b body xs ρ = .nx ρ2 ∧ I (k + xs.length) ρ2
  | [], k, ρ, h, _ => ⟨ρ, rfl, h⟩
  | x :: xs, k, ρ, h, st => by
    obtain ⟨ρ1, ρ2, h1, h2, h3⟩ := st 0 x ρ rfl h
    obtain ⟨ρ3, h4, h5⟩ := forL_inv I xs (k + 1) ρ2 h3 fun i y ρ hy hi => by
      have := st (i + 1) y ρ (by simpa using hy) (by rw [show k + (i + 1) = k + 1 + i by omega]; exact hi)
      rw [show k + 1 + i + 1 = k + (i + 1) + 1 by omega]
      exact this
    refine ⟨ρ3, ?_, by rw [show k + (x :: xs).length = k + 1 + xs.length by simp; omega]; exact h5⟩
    rcases h2 with h2 | h2 <;> simp [forL, h1, h2, h4]
theorem rangeD_len (lo : Int) (n : Nat) : (rangeD lo n).length = n := by simp [rangeD]
theorem rangeD_at (lo : Int) (n i : Nat) (d : D) (h : (rangeD lo n)[i]? = some d) : d = .int (lo + i) ∧ i < n := by
  unfold rangeD at h
  rw [List.getElem?_map] at h
  obtain ⟨k, hk, rfl⟩ := Option.map_eq_some_iff.mp h
  obtain ⟨h1, h2⟩ := List.getElem?_eq_some_iff.mp hk
  rw [List.getElem_range] at h2
  simp at h1
  exact ⟨by rw [h2], h1⟩
theorem rangeD_mem (lo : Int) (n : Nat) (d : D) (h : d ∈ rangeD lo n) : ∃ i : Nat, i < n ∧ d = .int (lo + i) := by
  unfold rangeD at h
  obtain ⟨k, hk, rfl⟩ := List.mem_map.mp h
  exact ⟨k, List.mem_range.mp hk, rfl⟩
theorem compL_mapf {α : Type} {j : Nat} {e : E} {ρ : Env} {t g : α → D} : ∀ (xs : List α), (∀ x ∈ xs, e (put ρ j (t x)) = .ok (g x)) → compL (cN j) eYes e ρ (xs.map t) = .ok (xs.map g)
  | [], _ => rfl
  | x :: xs, h => by
    have h1 := h x (List.mem_cons_self ..)
    have h2 := compL_mapf xs fun y hy => h y (List.mem_cons_of_mem _ hy)
    simp [compL, eYes, h1, h2]
theorem compL_filterf {α : Type} {j : Nat} {c e : E} {ρ : Env} {t g : α → D} {p : α → Bool} : ∀ (xs : List α), (∀ x ∈ xs, c (put ρ j (t x)) = .ok (.bl (p x)) ∧ e (put ρ j (t x)) = .ok (g x)) → compL (cN j) c e ρ (xs.map t) = .ok ((xs.filter p).map g)
  | [], _ => rfl
  | x :: xs, h => by
    obtain ⟨h0, h1⟩ := h x (List.mem_cons_self ..)
    have h2 := compL_filterf xs fun y hy => h y (List.mem_cons_of_mem _ hy)
    cases hp : p x <;> simp [compL, h0, h1, h2, hp]
theorem compL_range {j : Nat} {e : E} {ρ : Env} {lo : Int} {n : Nat} {g : Nat → D} (h : ∀ i < n, e (put ρ j (.int (lo + (i : Int)))) = .ok (g i)) : compL (cN j) eYes e ρ (rangeD lo n) = .ok ((List.range n).map g) :=
  compL_mapf (t := fun (k : Nat) => .int (lo + (k : Int))) _ fun i hi => h i (List.mem_range.mp hi)
theorem compL_range0 {j : Nat} {e : E} {ρ : Env} {n : Nat} {g : Nat → D} (h : ∀ i < n, e (put ρ j (.int (i : Int))) = .ok (g i)) : compL (cN j) eYes e ρ (rangeD 0 n) = .ok ((List.range n).map g) :=
  compL_range fun i hi => by rw [Int.zero_add]; exact h i hi
theorem rangeD_get0 (n i : Nat) (d : D) (h : (rangeD 0 n)[i]? = some d) : d = .int (i : Int) ∧ i < n := by
  have := rangeD_at 0 n i d h
  rw [Int.zero_add] at this
  exact this
theorem enumD_get : ∀ (xs : List D) (k : Int) (i : Nat) (d : D), (enumFrom k xs)[i]? = some d → ∃ x, xs[i]? = some x ∧ d = .tup true [.int (k + i), x]
  | [], k, i, d, h => by simp [enumFrom] at h
  | x :: xs, k, 0, d, h => by
    simp [enumFrom] at h
    exact ⟨x, rfl, by rw [← h]; simp⟩
  | x :: xs, k, i + 1, d, h => by
    obtain ⟨y, h1, h2⟩ := enumD_get xs (k + 1) i d (by simpa [enumFrom] using h)
    exact ⟨y, by simpa using h1, by rw [h2]; congr 3; omega⟩
theorem enumD_len : ∀ (xs : List D) (k : Int), (enumFrom k xs).length = xs.length
  | [], _ => rfl
  | x :: xs, k => by simp [enumFrom, enumD_len xs (k + 1)]
theorem enumD_ints (l : List Int) (i : Nat) (d : D) (h : (enumFrom 0 (l.map .int))[i]? = some d) : ∃ v, d = .tup true [.int (i : Int), .int v] ∧ l[i]? = some v ∧ i < l.length := by
  obtain ⟨x, h1, h2⟩ := enumD_get _ 0 i d h
  rw [List.getElem?_map] at h1
  obtain ⟨v, hv, rfl⟩ := Option.map_eq_some_iff.mp h1
  exact ⟨v, by rw [h2, Int.zero_add], hv, (List.getElem?_eq_some_iff.mp hv).1⟩
theorem cut_hiN {α : Type} (s : List α) (k : Nat) : cutL s none (some (k : Int)) = s.take k := by
  have h : ¬ ((k : Int) < 0) := by omega
  simp only [cutL, sIxD, h, if_false, List.drop_zero, Int.toNat_natCast, Nat.sub_zero]
  rw [List.take_eq_take_iff]; omega
theorem cut_loN {α : Type} (s : List α) (k : Nat) : cutL s (some (k : Int)) none = s.drop k := by
  have h : ¬ ((k : Int) < 0) := by omega
  simp only [cutL, sIxD, h, if_false, Int.toNat_natCast]
  rw [List.take_of_length_le (by simp)]
  by_cases hk : k ≤ s.length
  · rw [Nat.min_eq_left hk]
  · rw [Nat.min_eq_right (by omega), List.drop_of_length_le (Nat.le_refl _), List.drop_of_length_le (by omega)]
theorem splT_len (S : Tx) : ∀ (l : Tx) (k : Nat) (acc w : Tx), w ∈ splT S k acc l → w.length ≤ acc.length + l.length
  | [], k, acc, w, h => by
    have : w = acc := by cases k <;> simpa [splT] using h
    subst this; simp
  | c :: r, 0, acc, w, h => by
    unfold splT at h
    split at h
    · rcases List.mem_cons.mp h with rfl | h
      · omega
      · have := splT_len S r _ [] w h
        simp at this ⊢; omega
    · have := splT_len S r 0 (acc ++ [c]) w h
      simp at this ⊢; omega
  | c :: r, k + 1, acc, w, h => by
    have := splT_len S r k acc w h
    simp at this ⊢; omega
theorem splT_many (S : Tx) : ∀ (l : Tx) (k : Nat) (acc : Tx), (splT S k acc l).length ≤ l.length + 1
  | [], k, acc => by cases k <;> simp [splT]
  | c :: r, 0, acc => by
    unfold splT
    split
    · have := splT_many S r (S.length - 1) []
      simp; omega
    · have := splT_many S r 0 (acc ++ [c])
      simp; omega
  | c :: r, k + 1, acc => by
    have := splT_many S r k acc
    simp [splT]; omega
end G


/-! Own layer: how the further denotations compute; pieces of a list. -/
namespace G
@[simp] theorem iRange3v_ap (a b c : E) (ρ : Env) : iRange3v a b c ρ = (a ρ).bind fun x => (b ρ).bind fun y => (c ρ).bind fun z => match x, y, z with
  | .int i, .int j, .int k => if fits62 i && fits62 j && decide (0 < k) && decide (k < 1073741824) then .ok (rangeC i k (turnsC i j k)) else .no
  | _, _, _ => .no := id rfl
@[simp] theorem sWhile_ap (k : Nat) (c : E) (body : Sd) (ρ : Env) : sWhile k c body ρ = whL c body k ρ := id rfl
/-- a while loop by an invariant with a measure -/
theorem whL_inv {c : E} {body : Sd} (I : Nat → Env → Prop) (Q : Env → Prop) : ∀ (fuel m : Nat) (ρ : Env), m < fuel → I m ρ →
    (∀ m ρ, I m ρ → (c ρ = .ok (.bl false) ∧ Q ρ) ∨ (c ρ = .ok (.bl true) ∧ ∃ ρ2 m2, (body ρ = .nx ρ2 ∨ body ρ = .ct ρ2) ∧ m2 < m ∧ I m2 ρ2)) → ∃ ρ2, whL c body fuel ρ = .nx ρ2 ∧ Q ρ2
  | 0, m, ρ, h, _, _ => absurd h (Nat.not_lt_zero _)
  | fuel + 1, m, ρ, h, i, st => by
    rcases st m ρ i with ⟨h1, h2⟩ | ⟨h1, ρ2, m2, h2, h3, h4⟩
    · exact ⟨ρ, by simp [whL, h1], h2⟩
    · obtain ⟨ρ3, h5, h6⟩ := whL_inv I Q fuel m2 ρ2 (by omega) h4 st
      refine ⟨ρ3, ?_, h6⟩
      rcases h2 with h2 | h2 <;> simp [whL, h1, h2, h5]
/-- l in pieces of n -/
def chk {α : Type} (n : Nat) (l : List α) : List (List α) := (List.range ((l.length + n - 1) / n)).map fun k => (l.drop (k * n)).take n
theorem chk_nil {α : Type} (n : Nat) (hn : 0 < n) : chk n ([] : List α) = [] := by
  simp only [chk, List.length_nil, Nat.zero_add]
  rw [Nat.div_eq_of_lt (by omega)]; rfl
theorem chk_cons {α : Type} (n : Nat) (hn : 0 < n) (l : List α) (h : l ≠ []) : chk n l = l.take n :: chk n (l.drop n) := by
  have hl : 0 < l.length := List.length_pos_iff.mpr h
  have e : (l.length + n - 1) / n = ((l.drop n).length + n - 1) / n + 1 := by
    rw [List.length_drop]
    by_cases hh : n ≤ l.length
    · rw [show l.length + n - 1 = (l.length - n + n - 1) + n by omega, Nat.add_div_right _ hn]
    · rw [show l.length - n = 0 by omega, Nat.zero_add, Nat.div_eq_of_lt (show n - 1 < n by omega), show l.length + n - 1 = (l.length - 1) + n by omega, Nat.add_div_right _ hn, Nat.div_eq_of_lt (show l.length - 1 < n by omega)]
  simp only [chk, e, List.range_succ_eq_map, List.map_cons, List.map_map, Nat.zero_mul, List.drop_zero]
  congr 1
  refine List.map_congr_left fun k _ => ?_
  simp only [Function.comp, List.drop_drop]
  rw [show n + k * n = (k + 1) * n by rw [Nat.add_mul]; omega]
theorem turnsC_nat (m n : Nat) (hn : 0 < n) : turnsC 0 (m : Int) (n : Int) = (m + n - 1) / n := by
  unfold turnsC
  rw [show (m : Int) - 0 + n - 1 = ((m + n - 1 : Nat) : Int) by omega, ← Int.natCast_ediv, Int.toNat_natCast]
theorem cut_LH {α : Type} (s : List α) (a n : Nat) : cutL s (some (a : Int)) (some ((a : Int) + n)) = (s.drop a).take n := by
  have h1 : ¬ ((a : Int) < 0) := by omega
  have h2 : ¬ ((a : Int) + n < 0) := by omega
  simp only [cutL, sIxD, h1, h2, if_false, Int.toNat_natCast]
  rw [show ((a : Int) + n).toNat = a + n by omega]
  by_cases ha : a ≤ s.length
  · rw [Nat.min_eq_left ha, List.take_eq_take_iff, List.length_drop]; omega
  · rw [Nat.min_eq_right (by omega : s.length ≤ a), List.drop_of_length_le (Nat.le_refl _), List.drop_of_length_le (by omega)]; simp
/-- a comprehension over the pieces' starts -/
theorem compL_chk {α β : Type} {j : Nat} {e : E} {ρ : Env} {l : List α} {n : Nat} {t : β → D} {g : List α → β}
    (h : ∀ k, k * n < l.length → e (put ρ j (.int ((k * n : Nat) : Int))) = .ok (t (g ((l.drop (k * n)).take n)))) (hn : 0 < n) :
    compL (cN j) eYes e ρ (rangeC 0 (n : Int) ((l.length + n - 1) / n)) = .ok (((chk n l).map g).map t) := by
  have := compL_mapf (j := j) (e := e) (ρ := ρ) (t := fun (k : Nat) => D.int (0 + (k : Int) * (n : Int))) (g := fun k => t (g ((l.drop (k * n)).take n))) (List.range ((l.length + n - 1) / n)) (by
    intro k hk
    have hk' := List.mem_range.mp hk
    have hlt : k * n < l.length := by
      have := Nat.mul_le_of_le_div n (k + 1) _ (by omega : k + 1 ≤ (l.length + n - 1) / n)
      rw [Nat.add_mul] at this; omega
    have := h k hlt
    rw [show (0 : Int) + (k : Int) * (n : Int) = ((k * n : Nat) : Int) by rw [Int.natCast_mul]; omega]
    exact this)
  unfold rangeC
  rw [this, chk, List.map_map, List.map_map]
  rfl
end G


namespace Lk05
open G
def t0_ABCDEFGHIJKL : Tx := [65, 66, 67, 68, 69, 70, 71, 72, 73, 74, 75, 76, 77, 78, 79, 80, 81, 82, 83, 84, 85, 86, 87, 88, 89, 90, 97, 98, 99, 100, 101, 102, 103, 104, 105, 106, 107, 108, 109, 110, 111, 112, 113, 114, 115, 116, 117, 118, 119, 120, 121, 122, 48, 49, 50, 51, 52, 53, 54, 55, 56, 57, 43, 47]
def t1_ : Tx := []
def t2_ : Tx := [61]
def t3_more : Tx := [109, 111, 114, 101]
def b__law_are_rows : Sd := sRet (eAnd (e1 (fIsT .list) (eO 0)) (eAnd (e2 fEq (eO 0) (eO 1)) (e1 fAll (eComp [2] (iLst (eO 0)) (cN 2) eYes (e1 (fIsT .str) (eO 2))))))
def d__law_are_rows : List D → Res D := runF 3 b__law_are_rows
def b__law_mixed : Sd := sRet (e2 fMod (e2 fMul (e2 fMod (e2 fAdd (e2 fAdd (e2 fMul (eO 0) (eC (.int 48271))) (e2 fMul (e2 fMul (e2 fMul (eC (.int 7919)) (eO 1)) (eO 1)) (eO 1))) (eC (.int 104729))) (eC (.int 2147483647))) (eC (.int 16807))) (eC (.int 2147483629)))
def d__law_mixed : List D → Res D := runF 2 b__law_mixed
def b__law_next : Sd := sRet (e2 fMod (e2 fMul (e2 fAdd (e2 fAdd (e2 fMul (eO 0) (e2 fAdd (e2 fMul (eO 1) (eO 1)) (eC (.int 1)))) (e2 fMul (eC (.int 1009)) (eO 1))) (eC (.int 11))) (eC (.int 69621))) (eC (.int 2147483629)))
def d__law_next : List D → Res D := runF 2 b__law_next
def b__law_bytes : Sd := sSeq (sSet 1 (eL [])) (sSeq (sFor (iEnum (iLstS (eFrz (eSlHi (eO 0) (eC (.int 63)))))) (bT [2, 3]) (sSeq (sSet 4 (eCall d__law_mixed [eO 3, eO 2])) (sFor (iRange1 (e2 fAdd (eC (.int 1)) (e2 fMod (eO 4) (eC (.int 4))))) (bN 5) (sSeq (sSet 6 (eCall d__law_next [eO 4, eO 5])) (sApp 1 (e2 fIx (eFrz (eL [e2 fMod (e2 fDiv (eO 6) (eC (.int 4))) (eC (.int 256)), eC (.int 255), eC (.int 0), e2 fMod (e2 fDiv (eO 6) (eC (.int 4))) (eC (.int 256))])) (e2 fMod (eO 6) (eC (.int 4))))))))) (sRetM 1))
def d__law_bytes : List D → Res D := runF 7 b__law_bytes
def b__law_cell : Sd := sSeq (sIf (e2 fLt (eO 1) (e1 fLen (eO 0))) (sRet (e2 fIx (eO 0) (eO 1))) sPass) (sRet (eC (.int 0)))
def d__law_cell : List D → Res D := runF 2 b__law_cell
def b__law_bits : Sd := sRet (eComp [2] (iRange1 (eO 1)) (cN 2) eYes (e2 fMod (e2 fDiv (eO 0) (e2 fIx (eFrz (eL [eC (.int 1), eC (.int 2), eC (.int 4), eC (.int 8), eC (.int 16), eC (.int 32), eC (.int 64), eC (.int 128)])) (e2 fSub (e2 fSub (eO 1) (eC (.int 1))) (eO 2)))) (eC (.int 2))))
def d__law_bits : List D → Res D := runF 3 b__law_bits
def b__law_number : Sd := sSeq (sSet 1 (eC (.int 0))) (sSeq (sFor (iLstS (eO 0)) (bN 2) (sSet 1 (e2 fAdd (e2 fMul (eC (.int 2)) (eO 1)) (eO 2)))) (sRetM 1))
def d__law_number : List D → Res D := runF 3 b__law_number
def b__law_sixty : Sd := sRet (eC (.str t0_ABCDEFGHIJKL))
def d__law_sixty : List D → Res D := runF 0 b__law_sixty
def b__law_in_sixty : Sd := sSeq (sSet 1 (eL [])) (sSeq (sFor (iLstS (eO 0)) (bN 2) (sExt 1 (eCall d__law_bits [eO 2, eC (.int 8)]))) (sSeq (sSet 1 (e2 fAdd (eO 1) (e2 fMul (eL [eC (.int 0)]) (e2 fMod (e1 fNeg (e1 fLen (eO 1))) (eC (.int 6)))))) (sSeq (sSet 3 (e2s fJoin (eC (.str t1_)) (eComp [5] (iRange3v (eC (.int 0)) (e1 fLen (eO 1)) (eC (.int 6))) (cN 5) eYes (e2 fIx (eFrz (eCall0 d__law_sixty)) (eCall d__law_number [eSlLH (eO 1) (eO 5) (e2 fAdd (eO 5) (eC (.int 6)))]))))) (sSeq (sSet 3 (e2 fAdd (eO 3) (e2 fMul (eC (.str t2_)) (e2 fMod (e1 fNeg (e1 fLen (eO 3))) (eC (.int 4)))))) (sSeq (sSet 4 (eL [])) (sSeq (sWhile 1000000 (e2 fNe (eO 3) (eC (.str t1_))) (sSeq (sApp 4 (eSlHi (eO 3) (eC (.int 60)))) (sSet 3 (eSlLo (eO 3) (eC (.int 60)))))) (sRetM 4)))))))
def d__law_in_sixty : List D → Res D := runF 6 b__law_in_sixty
def b_four_of : Sd := sSeq (sSet 1 (eC (.int 0))) (sSeq (sFor (iLstS (eFrz (e2 fAdd (eO 0) (e2 fMul (eL [eC (.int 0)]) (e2 fSub (eC (.int 3)) (e1 fLen (eO 0))))))) (bN 2) (sSet 1 (e2 fBor (e2 fShl (eO 1) (eC (.int 8))) (eO 2)))) (sSeq (sSet 3 (eC (.str t1_))) (sSeq (sFor (iTupS (eFrz (eT [eC (.int 18), eC (.int 12), eC (.int 6), eC (.int 0)]))) (bN 4) (sSet 3 (e2 fAdd (eO 3) (e2 fIx (eC (.str t0_ABCDEFGHIJKL)) (e2 fBand (e2 fShr (eO 1) (eO 4)) (eC (.int 63))))))) (sRet (e2 fAdd (eSlHi (eO 3) (e2 fAdd (e1 fLen (eO 0)) (eC (.int 1)))) (e2 fMul (eC (.str t2_)) (e2 fSub (eC (.int 3)) (e1 fLen (eO 0)))))))))
def d_four_of : List D → Res D := runF 5 b_four_of
def b_is_whole : Sd := sRet (eAnd (e1 (fIsT .int) (eO 0)) (eNot (e1 (fIsT .bool) (eO 0))))
def d_is_whole : List D → Res D := runF 1 b_is_whole
def b_is_byte : Sd := sRet (eAnd (eCall d_is_whole [eO 0]) (eChain fLe fLe (eC (.int 0)) (eO 0) (eC (.int 255))))
def d_is_byte : List D → Res D := runF 1 b_is_byte
def b_need_bytes : Sd := sIf (eOr (eNot (e1 (fIsT .list) (eO 0))) (eNot (e1 fAll (eComp [1] (iLst (eO 0)) (cN 1) eYes (eCall d_is_byte [eO 1]))))) sNo sPass
def d_need_bytes : List D → Res D := runF 2 b_need_bytes
def b_sixty_of : Sd := sSeq (sDrop (eCall d_need_bytes [eO 0])) (sSeq (sSet 1 (e2s fJoin (eC (.str t1_)) (eComp [2] (iRange3v (eC (.int 0)) (e1 fLen (eO 0)) (eC (.int 3))) (cN 2) eYes (eCall d_four_of [e1 fList (eSlLH (eO 0) (eO 2) (e2 fAdd (eO 2) (eC (.int 3))))])))) (sRet (eComp [2] (iRange3v (eC (.int 0)) (e1 fLen (eO 1)) (eC (.int 60))) (cN 2) eYes (eSlLH (eO 1) (eO 2) (e2 fAdd (eO 2) (eC (.int 60)))))))
def d_sixty_of : List D → Res D := runF 3 b_sixty_of
def b_law : Sd := sSeq (sSet 1 (eCall d__law_bytes [eO 0])) (sSeq (sSet 2 (eL [e1 fLen (eO 1), eC (.int 0)])) (sSeq (sFor (iRange1 (eC (.int 6))) (bN 3) (sSeq (sSet 5 (eCall d__law_mixed [eCall d__law_cell [eO 0, eO 3], e2 fAdd (eC (.int 70)) (eO 3)])) (sSeq (sSet 6 (e2 fDiv (eO 5) (eC (.int 4)))) (sApp 2 (e2 fIx (eFrz (eL [eV 6, e2 fMul (eC (.int 45)) (e2 fMod (eO 6) (eC (.int 6))), e2 fAdd (e2 fMul (eC (.int 45)) (e2 fMod (eO 6) (eC (.int 6)))) (eC (.int 1)), e2 fAdd (eC (.int 44)) (e2 fMul (eC (.int 45)) (e2 fMod (eO 6) (eC (.int 5))))])) (e2 fMod (eO 5) (eC (.int 4)))))))) (sSeq (sFrz 2 (sFor (iLstS (eO 2)) (bN 4) (sSeq (sSet 7 (eSlHi (eO 1) (e2 fMod (eO 4) (e2 fAdd (e1 fLen (eO 1)) (eC (.int 1)))))) (sSeq (sSet 8 (eCall d__law_in_sixty [eO 7])) (sSeq (sSet 9 (e1 fList (eO 7))) (sFor (iRange1 (eC (.int 2))) (bN 10) (sSeq (sSet 11 (eCall d_sixty_of [eO 9])) (sSeq (sIf (eOr (eNot (eCall d__law_are_rows [eO 11, eO 8])) (e2 fNe (eO 9) (eO 7))) (sRet (eC (.bl false))) sPass) (sApp 11 (eC (.str t3_more))))))))))) (sRet (eC (.bl true))))))
def d_law : List D → Res D := runF 12 b_law
end Lk05


set_option maxHeartbeats 4000000
namespace Lk05
open PySem PySem.Spec PyProof.Rows L2 G
def topS (i : Nat) : Stmt := PySem.Challenge.pw_letterhouse_k05_sixty_told.main.body.getD i (.Pass ⟨0, 0, 0, 0⟩)
theorem e_t0_ABCDEFGHIJKL : Str.ofString "ABCDEFGHIJKLMNOPQRSTUVWXYZabcdefghijklmnopqrstuvwxyz0123456789+/" = tS t0_ABCDEFGHIJKL := by decide +kernel
theorem c_t0_ABCDEFGHIJKL : t0_ABCDEFGHIJKL.all (fun c => decide (c < 0x110000)) = true := by decide +kernel
theorem e_t1_ : Str.ofString "" = tS t1_ := by decide +kernel
theorem c_t1_ : t1_.all (fun c => decide (c < 0x110000)) = true := by decide +kernel
theorem e_t2_ : Str.ofString "=" = tS t2_ := by decide +kernel
theorem c_t2_ : t2_.all (fun c => decide (c < 0x110000)) = true := by decide +kernel
theorem e_t3_more : Str.ofString "more" = tS t3_more := by decide +kernel
theorem c_t3_more : t3_more.all (fun c => decide (c < 0x110000)) = true := by decide +kernel
abbrev s__law_are_rows : Stmt := topS 24
theorem sc__law_are_rows : FnScope ["_law_found", "_law_due", "_law_row"] ["_law_found", "_law_due"] (defScope s__law_are_rows) := ⟨rfl, rfl, rfl, by decide +kernel, rfl, by decide +kernel, by decide +kernel⟩
abbrev s__law_mixed : Stmt := topS 17
theorem sc__law_mixed : FnScope ["_law_cell_here", "_law_k"] ["_law_cell_here", "_law_k"] (defScope s__law_mixed) := ⟨rfl, rfl, rfl, by decide +kernel, rfl, by decide +kernel, by decide +kernel⟩
abbrev s__law_next : Stmt := topS 18
theorem sc__law_next : FnScope ["_law_number_here", "_law_k"] ["_law_number_here", "_law_k"] (defScope s__law_next) := ⟨rfl, rfl, rfl, by decide +kernel, rfl, by decide +kernel, by decide +kernel⟩
abbrev s__law_bytes : Stmt := topS 19
theorem sc__law_bytes : FnScope ["_law_script", "_law_found", "_law_k", "_law_cell_here", "_law_number_here", "_law_j", "_law_more"] ["_law_script"] (defScope s__law_bytes) := ⟨rfl, rfl, rfl, by decide +kernel, rfl, by decide +kernel, by decide +kernel⟩
abbrev s__law_cell : Stmt := topS 16
theorem sc__law_cell : FnScope ["_law_script", "_law_k"] ["_law_script", "_law_k"] (defScope s__law_cell) := ⟨rfl, rfl, rfl, by decide +kernel, rfl, by decide +kernel, by decide +kernel⟩
abbrev s__law_bits : Stmt := topS 21
theorem sc__law_bits : FnScope ["_law_number_here", "_law_many", "_law_k"] ["_law_number_here", "_law_many"] (defScope s__law_bits) := ⟨rfl, rfl, rfl, by decide +kernel, rfl, by decide +kernel, by decide +kernel⟩
abbrev s__law_number : Stmt := topS 22
theorem sc__law_number : FnScope ["_law_bits_here", "_law_found", "_law_bit"] ["_law_bits_here"] (defScope s__law_number) := ⟨rfl, rfl, rfl, by decide +kernel, rfl, by decide +kernel, by decide +kernel⟩
abbrev s__law_sixty : Stmt := topS 20
theorem sc__law_sixty : FnScope [] [] (defScope s__law_sixty) := ⟨rfl, rfl, rfl, by decide +kernel, rfl, by decide +kernel, by decide +kernel⟩
abbrev s__law_in_sixty : Stmt := topS 23
theorem sc__law_in_sixty : FnScope ["_law_row", "_law_bits_here", "_law_byte", "_law_text", "_law_rows", "_law_at"] ["_law_row"] (defScope s__law_in_sixty) := ⟨rfl, rfl, rfl, by decide +kernel, rfl, by decide +kernel, by decide +kernel⟩
abbrev s_four_of : Stmt := topS 13
theorem sc_four_of : FnScope ["three", "number", "byte", "found", "shift"] ["three"] (defScope s_four_of) := ⟨rfl, rfl, rfl, by decide +kernel, rfl, by decide +kernel, by decide +kernel⟩
abbrev s_is_whole : Stmt := topS 8
theorem sc_is_whole : FnScope ["thing"] ["thing"] (defScope s_is_whole) := ⟨rfl, rfl, rfl, by decide +kernel, rfl, by decide +kernel, by decide +kernel⟩
abbrev s_is_byte : Stmt := topS 9
theorem sc_is_byte : FnScope ["thing"] ["thing"] (defScope s_is_byte) := ⟨rfl, rfl, rfl, by decide +kernel, rfl, by decide +kernel, by decide +kernel⟩
abbrev s_need_bytes : Stmt := topS 10
theorem sc_need_bytes : FnScope ["row", "byte"] ["row"] (defScope s_need_bytes) := ⟨rfl, rfl, rfl, by decide +kernel, rfl, by decide +kernel, by decide +kernel⟩
abbrev s_sixty_of : Stmt := topS 14
theorem sc_sixty_of : FnScope ["row", "text", "at"] ["row"] (defScope s_sixty_of) := ⟨rfl, rfl, rfl, by decide +kernel, rfl, by decide +kernel, by decide +kernel⟩
abbrev s_law : Stmt := topS 25
theorem sc_law : FnScope ["_law_script", "_law_row", "_law_sizes", "_law_k", "_law_size", "_law_number_here", "_law_more", "_law_some", "_law_due", "_law_handed", "_law_turn", "_law_found"] ["_law_script"] (defScope s_law) := ⟨rfl, rfl, rfl, by decide +kernel, rfl, by decide +kernel, by decide +kernel⟩
structure Fx (K : PySem.W.Frag) (mg : Str → Option Value) where
  a__law_are_rows : Addr
  fd__law_are_rows : FuncData
  F__law_are_rows : Fun K "_law_are_rows" "_law_are_rows" s__law_are_rows a__law_are_rows fd__law_are_rows
  g__law_are_rows : mg "_law_are_rows" = some (.ref a__law_are_rows)
  b__law_are_rows : Binds K fd__law_are_rows ["_law_found", "_law_due"] []
  a__law_mixed : Addr
  fd__law_mixed : FuncData
  F__law_mixed : Fun K "_law_mixed" "_law_mixed" s__law_mixed a__law_mixed fd__law_mixed
  g__law_mixed : mg "_law_mixed" = some (.ref a__law_mixed)
  b__law_mixed : Binds K fd__law_mixed ["_law_cell_here", "_law_k"] []
  a__law_next : Addr
  fd__law_next : FuncData
  F__law_next : Fun K "_law_next" "_law_next" s__law_next a__law_next fd__law_next
  g__law_next : mg "_law_next" = some (.ref a__law_next)
  b__law_next : Binds K fd__law_next ["_law_number_here", "_law_k"] []
  a__law_bytes : Addr
  fd__law_bytes : FuncData
  F__law_bytes : Fun K "_law_bytes" "_law_bytes" s__law_bytes a__law_bytes fd__law_bytes
  g__law_bytes : mg "_law_bytes" = some (.ref a__law_bytes)
  b__law_bytes : Binds K fd__law_bytes ["_law_script"] []
  a__law_cell : Addr
  fd__law_cell : FuncData
  F__law_cell : Fun K "_law_cell" "_law_cell" s__law_cell a__law_cell fd__law_cell
  g__law_cell : mg "_law_cell" = some (.ref a__law_cell)
  b__law_cell : Binds K fd__law_cell ["_law_script", "_law_k"] []
  a__law_bits : Addr
  fd__law_bits : FuncData
  F__law_bits : Fun K "_law_bits" "_law_bits" s__law_bits a__law_bits fd__law_bits
  g__law_bits : mg "_law_bits" = some (.ref a__law_bits)
  b__law_bits : Binds K fd__law_bits ["_law_number_here", "_law_many"] []
  a__law_number : Addr
  fd__law_number : FuncData
  F__law_number : Fun K "_law_number" "_law_number" s__law_number a__law_number fd__law_number
  g__law_number : mg "_law_number" = some (.ref a__law_number)
  b__law_number : Binds K fd__law_number ["_law_bits_here"] []
  a__law_sixty : Addr
  fd__law_sixty : FuncData
  F__law_sixty : Fun K "_law_sixty" "_law_sixty" s__law_sixty a__law_sixty fd__law_sixty
  g__law_sixty : mg "_law_sixty" = some (.ref a__law_sixty)
  b__law_sixty : Binds K fd__law_sixty [] []
  a__law_in_sixty : Addr
  fd__law_in_sixty : FuncData
  F__law_in_sixty : Fun K "_law_in_sixty" "_law_in_sixty" s__law_in_sixty a__law_in_sixty fd__law_in_sixty
  g__law_in_sixty : mg "_law_in_sixty" = some (.ref a__law_in_sixty)
  b__law_in_sixty : Binds K fd__law_in_sixty ["_law_row"] []
  a_four_of : Addr
  fd_four_of : FuncData
  F_four_of : Fun K "four_of" "four_of" s_four_of a_four_of fd_four_of
  g_four_of : mg "four_of" = some (.ref a_four_of)
  b_four_of : Binds K fd_four_of ["three"] []
  a_is_whole : Addr
  fd_is_whole : FuncData
  F_is_whole : Fun K "is_whole" "is_whole" s_is_whole a_is_whole fd_is_whole
  g_is_whole : mg "is_whole" = some (.ref a_is_whole)
  b_is_whole : Binds K fd_is_whole ["thing"] []
  a_is_byte : Addr
  fd_is_byte : FuncData
  F_is_byte : Fun K "is_byte" "is_byte" s_is_byte a_is_byte fd_is_byte
  g_is_byte : mg "is_byte" = some (.ref a_is_byte)
  b_is_byte : Binds K fd_is_byte ["thing"] []
  a_need_bytes : Addr
  fd_need_bytes : FuncData
  F_need_bytes : Fun K "need_bytes" "need_bytes" s_need_bytes a_need_bytes fd_need_bytes
  g_need_bytes : mg "need_bytes" = some (.ref a_need_bytes)
  b_need_bytes : Binds K fd_need_bytes ["row"] []
  a_sixty_of : Addr
  fd_sixty_of : FuncData
  F_sixty_of : Fun K "sixty_of" "sixty_of" s_sixty_of a_sixty_of fd_sixty_of
  g_sixty_of : mg "sixty_of" = some (.ref a_sixty_of)
  b_sixty_of : Binds K fd_sixty_of ["row"] []
  a_law : Addr
  fd_law : FuncData
  F_law : Fun K "law" "law" s_law a_law fd_law
  g_law : mg "law" = some (.ref a_law)
  b_law : Binds K fd_law ["_law_script"] []
  z_all : mg "all" = none
  z_bool : mg "bool" = none
  z_enumerate : mg "enumerate" = none
  z_int : mg "int" = none
  z_isinstance : mg "isinstance" = none
  z_len : mg "len" = none
  z_list : mg "list" = none
  z_range : mg "range" = none
  z_str : mg "str" = none
  c_MOST_ROW : ∃ t, mg "MOST_ROW" = some (.int 60 t)
  c_SIXTY : ∃ t, mg "SIXTY" = some (.str (tS t0_ABCDEFGHIJKL) t)
section
variable {cl : Cl} {P : Program} {w : World} {K : PySem.W.Frag} {mg : Str → Option Value} {base : Heap}
theorem ok__law_are_rows (T : Fx K mg) : FnOk P w K mg base (L2.CX P w) 1 T.a__law_are_rows T.fd__law_are_rows ["_law_found", "_law_due"] (spD cl K 2 d__law_are_rows) :=
  fn_ok (k := 0) T.F__law_are_rows sc__law_are_rows fun cdv A outer s H E hr =>
    (dss_one (ds_ret (de_and (de_isT (x := "") (y := "") (py := ⟨0, 0, 0, 0⟩) .list (pe_bltn rfl T.z_list (by decide +kernel) rfl) rfl T.z_isinstance (do_v 0 (pv 0))) (de_and (de_cmp (op_eqD hr.units) o_eq (nomark _) (do_v 0 (pv 0)) (do_v 1 (pv 1))) (de_one (de_b1 (cr_all rfl) o_all rfl T.z_all (by decide +kernel) (DE.o (de_comp (own := [("_law_row", 2)]) (g := gName 2) rfl rfl sc__law_are_rows.nd (di_list (do_v 0 (pv 0))) (blkOk_by (own := [("_law_row", 2)]) (N := ["_law_found", "_law_due", "_law_row"]) (sc := defScope s__law_are_rows) (by decide +kernel)) (cg_name 2) (fun _ _ _ _ _ => (pg_name (i := 2) sc__law_are_rows.nd rfl (by first | exact Or.inl rfl | exact Or.inr rfl))) (fun _ _ _ _ _ => dts_nil) (fun _ _ _ _ _ => (de_isT (x := "") (y := "") (py := ⟨0, 0, 0, 0⟩) .str (pe_bltn rfl T.z_str (by decide +kernel) rfl) rfl T.z_isinstance (do_v 2 (pv 2))))))))))))
theorem ok__law_mixed (T : Fx K mg) : FnOk P w K mg base (L2.CX P w) 1 T.a__law_mixed T.fd__law_mixed ["_law_cell_here", "_law_k"] (spD cl K 2 d__law_mixed) :=
  fn_ok (k := 0) T.F__law_mixed sc__law_mixed fun cdv A outer s H E hr =>
    (dss_one (ds_ret (de_bin op_mod o_mod (DE.o (de_bin op_mulD o_mul (DE.o (de_bin op_mod o_mod (DE.o (de_bin op_addD o_add (DE.o (de_bin op_addD o_add (DE.o (de_bin op_mulD o_mul (do_v 0 (pv 0)) (DE.o de_int))) (DE.o (de_bin op_mulD o_mul (DE.o (de_bin op_mulD o_mul (DE.o (de_bin op_mulD o_mul (DE.o de_int) (do_v 1 (pv 1)))) (do_v 1 (pv 1)))) (do_v 1 (pv 1)))))) (DE.o de_int))) (DE.o de_int))) (DE.o de_int))) (DE.o de_int))))
theorem ok__law_next (T : Fx K mg) : FnOk P w K mg base (L2.CX P w) 1 T.a__law_next T.fd__law_next ["_law_number_here", "_law_k"] (spD cl K 2 d__law_next) :=
  fn_ok (k := 0) T.F__law_next sc__law_next fun cdv A outer s H E hr =>
    (dss_one (ds_ret (de_bin op_mod o_mod (DE.o (de_bin op_mulD o_mul (DE.o (de_bin op_addD o_add (DE.o (de_bin op_addD o_add (DE.o (de_bin op_mulD o_mul (do_v 0 (pv 0)) (DE.o (de_bin op_addD o_add (DE.o (de_bin op_mulD o_mul (do_v 1 (pv 1)) (do_v 1 (pv 1)))) (DE.o de_int))))) (DE.o (de_bin op_mulD o_mul (DE.o de_int) (do_v 1 (pv 1)))))) (DE.o de_int))) (DE.o de_int))) (DE.o de_int))))
theorem ok__law_bytes (T : Fx K mg) : FnOk P w K mg base (L2.CX P w) 2 T.a__law_bytes T.fd__law_bytes ["_law_script"] (spD cl K 1 d__law_bytes) :=
  fn_ok (k := 1) T.F__law_bytes sc__law_bytes fun cdv A outer s H E hr =>
    (dss_cons (ds_set (i := 1) sc__law_bytes.nd rfl (by first | exact Or.inl rfl | exact Or.inr rfl) (de_lst dae_nil))
      (dss_cons (ds_for (passes_of rfl) rfl (di_enumS rfl T.z_enumerate (DE.o (de_frz (de_slHi (do_v 0 (pv 0)) (DE.o de_int))))) (pg_tup rfl (pgs_cons (pg_name (i := 2) sc__law_bytes.nd rfl (by first | exact Or.inl rfl | exact Or.inr rfl)) (pgs_cons (pg_name (i := 3) sc__law_bytes.nd rfl (by first | exact Or.inl rfl | exact Or.inr rfl)) pgs_nil))) (sg_tup [2, 3]) (dss_cons (ds_set (i := 4) sc__law_bytes.nd rfl (by first | exact Or.inl rfl | exact Or.inr rfl) (de_call (ok__law_mixed T) (hr.mono (by decide)) rfl T.g__law_mixed T.F__law_mixed.kp T.b__law_mixed (takes_of rfl rfl rfl rfl) (da_cons (do_v 3 (pv 3)) (da_cons (do_v 2 (pv 2)) da_nil))))
      (dss_one (ds_for (passes_of rfl) rfl (di_range1 rfl T.z_range (DE.o (de_bin op_addD o_add (DE.o de_int) (DE.o (de_bin op_mod o_mod (do_v 4 (pv 4)) (DE.o de_int)))))) (pg_name (i := 5) sc__law_bytes.nd rfl (by first | exact Or.inl rfl | exact Or.inr rfl)) (sg_name 5) (dss_cons (ds_set (i := 6) sc__law_bytes.nd rfl (by first | exact Or.inl rfl | exact Or.inr rfl) (de_call (ok__law_next T) (hr.mono (by decide)) rfl T.g__law_next T.F__law_next.kp T.b__law_next (takes_of rfl rfl rfl rfl) (da_cons (do_v 4 (pv 4)) (da_cons (do_v 5 (pv 5)) da_nil))))
      (dss_one (ds_app 1 (pv 1) (de_ix (fun _ _ => rfl) (DE.o (de_frz (de_lst (dae_cons (de_bin op_mod o_mod (DE.o (de_bin op_fdiv o_div (do_v 6 (pv 6)) (DE.o de_int))) (DE.o de_int)) (dae_cons de_int (dae_cons de_int (dae_cons (de_bin op_mod o_mod (DE.o (de_bin op_fdiv o_div (do_v 6 (pv 6)) (DE.o de_int))) (DE.o de_int)) dae_nil))))))) (DE.o (de_bin op_mod o_mod (do_v 6 (pv 6)) (DE.o de_int)))))))))))
      (dss_one (ds_retM 1 (pv 1)))))
theorem ok__law_cell (T : Fx K mg) : FnOk P w K mg base (L2.CX P w) 1 T.a__law_cell T.fd__law_cell ["_law_script", "_law_k"] (spD cl K 2 d__law_cell) :=
  fn_ok (k := 0) T.F__law_cell sc__law_cell fun cdv A outer s H E hr =>
    (dss_cons (ds_if (dt_cmp op_lt o_lt (nomark _) (do_v 1 (pv 1)) (DE.o (de_b1 call_len o_len rfl T.z_len (by decide +kernel) (do_v 0 (pv 0))))) (dss_one (ds_ret (de_ix (fun _ _ => rfl) (do_v 0 (pv 0)) (do_v 1 (pv 1))))) dss_nil)
      (dss_one (ds_ret de_int)))
theorem ok__law_bits (T : Fx K mg) : FnOk P w K mg base (L2.CX P w) 1 T.a__law_bits T.fd__law_bits ["_law_number_here", "_law_many"] (spD cl K 2 d__law_bits) :=
  fn_ok (k := 0) T.F__law_bits sc__law_bits fun cdv A outer s H E hr =>
    (dss_one (ds_ret (de_comp (own := [("_law_k", 2)]) (g := gName 2) rfl rfl sc__law_bits.nd (di_range1 rfl T.z_range (do_v 1 (pv 1))) (blkOk_by (own := [("_law_k", 2)]) (N := ["_law_number_here", "_law_many", "_law_k"]) (sc := defScope s__law_bits) (by decide +kernel)) (cg_name 2) (fun _ _ _ _ _ => (pg_name (i := 2) sc__law_bits.nd rfl (by first | exact Or.inl rfl | exact Or.inr rfl))) (fun _ _ _ _ _ => dts_nil) (fun _ _ _ _ _ => (de_bin op_mod o_mod (DE.o (de_bin op_fdiv o_div (do_v 0 (pv 0)) (DE.o (de_ix (fun _ _ => rfl) (DE.o (de_frz (de_lst (dae_cons de_int (dae_cons de_int (dae_cons de_int (dae_cons de_int (dae_cons de_int (dae_cons de_int (dae_cons de_int (dae_cons de_int dae_nil))))))))))) (DE.o (de_bin op_sub o_sub (DE.o (de_bin op_sub o_sub (do_v 1 (pv 1)) (DE.o de_int))) (do_v 2 (pv 2)))))))) (DE.o de_int))))))
theorem ok__law_number (T : Fx K mg) : FnOk P w K mg base (L2.CX P w) 1 T.a__law_number T.fd__law_number ["_law_bits_here"] (spD cl K 1 d__law_number) :=
  fn_ok (k := 0) T.F__law_number sc__law_number fun cdv A outer s H E hr =>
    (dss_cons (ds_set (i := 1) sc__law_number.nd rfl (by first | exact Or.inl rfl | exact Or.inr rfl) de_int)
      (dss_cons (ds_for (passes_of rfl) rfl (di_listS (do_v 0 (pv 0))) (pg_name (i := 2) sc__law_number.nd rfl (by first | exact Or.inl rfl | exact Or.inr rfl)) (sg_name 2) (dss_one (ds_set (i := 1) sc__law_number.nd rfl (by first | exact Or.inl rfl | exact Or.inr rfl) (de_bin op_addD o_add (DE.o (de_bin op_mulD o_mul (DE.o de_int) (do_v 1 (pv 1)))) (do_v 2 (pv 2))))))
      (dss_one (ds_retM 1 (pv 1)))))
theorem ok__law_sixty (T : Fx K mg) : FnOk P w K mg base (L2.CX P w) 1 T.a__law_sixty T.fd__law_sixty [] (spD cl K 0 d__law_sixty) :=
  fn_ok (k := 0) T.F__law_sixty sc__law_sixty fun cdv A outer s H E hr =>
    (dss_one (ds_ret (de_str t0_ABCDEFGHIJKL e_t0_ABCDEFGHIJKL c_t0_ABCDEFGHIJKL)))
theorem ok__law_in_sixty (T : Fx K mg) : FnOk P w K mg base (L2.CX P w) 2 T.a__law_in_sixty T.fd__law_in_sixty ["_law_row"] (spD cl K 1 d__law_in_sixty) :=
  fn_ok (k := 1) T.F__law_in_sixty sc__law_in_sixty fun cdv A outer s H E hr =>
    (dss_cons (ds_set (i := 1) sc__law_in_sixty.nd rfl (by first | exact Or.inl rfl | exact Or.inr rfl) (de_lst dae_nil))
      (dss_cons (ds_for (passes_of rfl) rfl (di_listS (do_v 0 (pv 0))) (pg_name (i := 2) sc__law_in_sixty.nd rfl (by first | exact Or.inl rfl | exact Or.inr rfl)) (sg_name 2) (dss_one (ds_ext 1 (pv 1) (de_call (ok__law_bits T) (hr.mono (by decide)) rfl T.g__law_bits T.F__law_bits.kp T.b__law_bits (takes_of rfl rfl rfl rfl) (da_cons (do_v 2 (pv 2)) (da_cons (DE.o de_int) da_nil))))))
      (dss_cons (ds_set (i := 1) sc__law_in_sixty.nd rfl (by first | exact Or.inl rfl | exact Or.inr rfl) (de_bin op_addD o_add (do_v 1 (pv 1)) (DE.o (de_bin op_mulD o_mul (DE.o (de_lst (dae_cons de_int dae_nil))) (DE.o (de_bin op_mod o_mod (DE.o (de_un un_neg o_neg (DE.o (de_b1 call_len o_len rfl T.z_len (by decide +kernel) (do_v 1 (pv 1)))))) (DE.o de_int)))))))
      (dss_cons (ds_set (i := 3) sc__law_in_sixty.nd rfl (by first | exact Or.inl rfl | exact Or.inr rfl) (de_m1 PySem.F.slot_str_join PySem.F.type_str_join mt_join o_join (DE.o (de_str t1_ e_t1_ c_t1_)) (DE.o (de_comp (own := [("_law_at", 5)]) (g := gName 5) rfl rfl sc__law_in_sixty.nd (di_range3v rfl T.z_range (DE.o de_int) (DE.o (de_b1 call_len o_len rfl T.z_len (by decide +kernel) (do_v 1 (pv 1)))) (DE.o de_int)) (blkOk_by (own := [("_law_at", 5)]) (N := ["_law_row", "_law_bits_here", "_law_byte", "_law_text", "_law_rows", "_law_at"]) (sc := defScope s__law_in_sixty) (by decide +kernel)) (cg_name 5) (fun _ _ _ _ _ => (pg_name (i := 5) sc__law_in_sixty.nd rfl (by first | exact Or.inl rfl | exact Or.inr rfl))) (fun _ _ _ _ _ => dts_nil) (fun _ _ _ _ _ => (de_ix (fun _ _ => rfl) (DE.o (de_frz (de_call0 (ok__law_sixty T) (hr.mono (by decide)) rfl T.g__law_sixty T.F__law_sixty.kp T.b__law_sixty))) (DE.o (de_call (ok__law_number T) (hr.mono (by decide)) rfl T.g__law_number T.F__law_number.kp T.b__law_number takes0 (da_cons (DE.o (de_slLH (do_v 1 (pv 1)) (do_v 5 (pv 5)) (DE.o (de_bin op_addD o_add (do_v 5 (pv 5)) (DE.o de_int))))) da_nil)))))))))
      (dss_cons (ds_set (i := 3) sc__law_in_sixty.nd rfl (by first | exact Or.inl rfl | exact Or.inr rfl) (de_bin op_addD o_add (do_v 3 (pv 3)) (DE.o (de_bin op_mulD o_mul (DE.o (de_str t2_ e_t2_ c_t2_)) (DE.o (de_bin op_mod o_mod (DE.o (de_un un_neg o_neg (DE.o (de_b1 call_len o_len rfl T.z_len (by decide +kernel) (do_v 3 (pv 3)))))) (DE.o de_int)))))))
      (dss_cons (ds_set (i := 4) sc__law_in_sixty.nd rfl (by first | exact Or.inl rfl | exact Or.inr rfl) (de_lst dae_nil))
      (dss_cons (ds_while 1000000 (passes_of rfl) (dt_cmp (op_neD hr.units) o_ne (nomark _) (do_v 3 (pv 3)) (DE.o (de_str t1_ e_t1_ c_t1_))) (dss_cons (ds_app 4 (pv 4) (de_slHi (do_v 3 (pv 3)) (DE.o de_int)))
      (dss_one (ds_set (i := 3) sc__law_in_sixty.nd rfl (by first | exact Or.inl rfl | exact Or.inr rfl) (de_slLo (do_v 3 (pv 3)) (DE.o de_int))))))
      (dss_one (ds_retM 4 (pv 4))))))))))
theorem ok_four_of (T : Fx K mg) : FnOk P w K mg base (L2.CX P w) 1 T.a_four_of T.fd_four_of ["three"] (spD cl K 1 d_four_of) :=
  fn_ok (k := 0) T.F_four_of sc_four_of fun cdv A outer s H E hr =>
    (dss_cons (ds_set (i := 1) sc_four_of.nd rfl (by first | exact Or.inl rfl | exact Or.inr rfl) de_int)
      (dss_cons (ds_for (passes_of rfl) rfl (di_listS (DE.o (de_frz (de_bin op_addD o_add (do_v 0 (pv 0)) (DE.o (de_bin op_mulD o_mul (DE.o (de_lst (dae_cons de_int dae_nil))) (DE.o (de_bin op_sub o_sub (DE.o de_int) (DE.o (de_b1 call_len o_len rfl T.z_len (by decide +kernel) (do_v 0 (pv 0)))))))))))) (pg_name (i := 2) sc_four_of.nd rfl (by first | exact Or.inl rfl | exact Or.inr rfl)) (sg_name 2) (dss_one (ds_set (i := 1) sc_four_of.nd rfl (by first | exact Or.inl rfl | exact Or.inr rfl) (de_bin op_or o_bor (DE.o (de_bin op_shl o_shl (do_v 1 (pv 1)) (DE.o de_int))) (do_v 2 (pv 2))))))
      (dss_cons (ds_set (i := 3) sc_four_of.nd rfl (by first | exact Or.inl rfl | exact Or.inr rfl) (de_str t1_ e_t1_ c_t1_))
      (dss_cons (ds_for (passes_of rfl) rfl (di_tupS (DE.o (de_frz (de_tup (dae_cons de_int (dae_cons de_int (dae_cons de_int (dae_cons de_int dae_nil)))))))) (pg_name (i := 4) sc_four_of.nd rfl (by first | exact Or.inl rfl | exact Or.inr rfl)) (sg_name 4) (dss_one (ds_set (i := 3) sc_four_of.nd rfl (by first | exact Or.inl rfl | exact Or.inr rfl) (de_bin op_addD o_add (do_v 3 (pv 3)) (DE.o (de_ix (fun _ _ => rfl) (DE.o (de_gs rfl T.c_SIXTY c_t0_ABCDEFGHIJKL)) (DE.o (de_bin op_and o_band (DE.o (de_bin op_shr o_shr (do_v 1 (pv 1)) (do_v 4 (pv 4)))) (DE.o de_int)))))))))
      (dss_one (ds_ret (de_bin op_addD o_add (DE.o (de_slHi (do_v 3 (pv 3)) (DE.o (de_bin op_addD o_add (DE.o (de_b1 call_len o_len rfl T.z_len (by decide +kernel) (do_v 0 (pv 0)))) (DE.o de_int))))) (DE.o (de_bin op_mulD o_mul (DE.o (de_str t2_ e_t2_ c_t2_)) (DE.o (de_bin op_sub o_sub (DE.o de_int) (DE.o (de_b1 call_len o_len rfl T.z_len (by decide +kernel) (do_v 0 (pv 0)))))))))))))))
theorem ok_is_whole (T : Fx K mg) : FnOk P w K mg base (L2.CX P w) 1 T.a_is_whole T.fd_is_whole ["thing"] (spD cl K 1 d_is_whole) :=
  fn_ok (k := 0) T.F_is_whole sc_is_whole fun cdv A outer s H E hr =>
    (dss_one (ds_ret (de_and (de_isT (x := "") (y := "") (py := ⟨0, 0, 0, 0⟩) .int (pe_bltn rfl T.z_int (by decide +kernel) rfl) rfl T.z_isinstance (do_v 0 (pv 0))) (de_one (de_not (de_isT (x := "") (y := "") (py := ⟨0, 0, 0, 0⟩) .bool (pe_bltn rfl T.z_bool (by decide +kernel) rfl) rfl T.z_isinstance (do_v 0 (pv 0))))))))
theorem ok_is_byte (T : Fx K mg) : FnOk P w K mg base (L2.CX P w) 2 T.a_is_byte T.fd_is_byte ["thing"] (spD cl K 1 d_is_byte) :=
  fn_ok (k := 1) T.F_is_byte sc_is_byte fun cdv A outer s H E hr =>
    (dss_one (ds_ret (de_and (de_call (ok_is_whole T) (hr.mono (by decide)) rfl T.g_is_whole T.F_is_whole.kp T.b_is_whole (takes_of rfl rfl rfl rfl) (da_cons (do_v 0 (pv 0)) da_nil)) (de_one (de_chn op_le op_le o_le o_le (DE.o de_int) (do_v 0 (pv 0)) (DE.o de_int))))))
theorem ok_need_bytes (T : Fx K mg) : FnOk P w K mg base (L2.CX P w) 3 T.a_need_bytes T.fd_need_bytes ["row"] (spD cl K 1 d_need_bytes) :=
  fn_ok (k := 2) T.F_need_bytes sc_need_bytes fun cdv A outer s H E hr =>
    (dss_one (ds_if (DW.t (dw_or (dt_not (dt_val (de_isT (x := "") (y := "") (py := ⟨0, 0, 0, 0⟩) .list (pe_bltn rfl T.z_list (by decide +kernel) rfl) rfl T.z_isinstance (do_v 0 (pv 0))))) (dw_or1 (dt_not (dt_val (de_b1 (cr_all rfl) o_all rfl T.z_all (by decide +kernel) (DE.o (de_comp (own := [("byte", 1)]) (g := gName 1) rfl rfl sc_need_bytes.nd (di_list (do_v 0 (pv 0))) (blkOk_by (own := [("byte", 1)]) (N := ["row", "byte"]) (sc := defScope s_need_bytes) (by decide +kernel)) (cg_name 1) (fun _ _ _ _ _ => (pg_name (i := 1) sc_need_bytes.nd rfl (by first | exact Or.inl rfl | exact Or.inr rfl))) (fun _ _ _ _ _ => dts_nil) (fun _ _ _ _ _ => (de_call (ok_is_byte T) (hr.mono (by decide)) rfl T.g_is_byte T.F_is_byte.kp T.b_is_byte takes0 (da_cons (do_v 1 (pv 1)) da_nil))))))))))) (dss_one ds_no) dss_nil))
theorem ok_sixty_of (T : Fx K mg) : FnOk P w K mg base (L2.CX P w) 4 T.a_sixty_of T.fd_sixty_of ["row"] (spD cl K 1 d_sixty_of) :=
  fn_ok (k := 3) T.F_sixty_of sc_sixty_of fun cdv A outer s H E hr =>
    (dss_cons (ds_drop (de_call (ok_need_bytes T) (hr.mono (by decide)) rfl T.g_need_bytes T.F_need_bytes.kp T.b_need_bytes (takes_of rfl rfl rfl rfl) (da_cons (do_v 0 (pv 0)) da_nil)))
      (dss_cons (ds_set (i := 1) sc_sixty_of.nd rfl (by first | exact Or.inl rfl | exact Or.inr rfl) (de_m1 PySem.F.slot_str_join PySem.F.type_str_join mt_join o_join (DE.o (de_str t1_ e_t1_ c_t1_)) (DE.o (de_comp (own := [("at", 2)]) (g := gName 2) rfl rfl sc_sixty_of.nd (di_range3v rfl T.z_range (DE.o de_int) (DE.o (de_b1 call_len o_len rfl T.z_len (by decide +kernel) (do_v 0 (pv 0)))) (DE.o de_int)) (blkOk_by (own := [("at", 2)]) (N := ["row", "text", "at"]) (sc := defScope s_sixty_of) (by decide +kernel)) (cg_name 2) (fun _ _ _ _ _ => (pg_name (i := 2) sc_sixty_of.nd rfl (by first | exact Or.inl rfl | exact Or.inr rfl))) (fun _ _ _ _ _ => dts_nil) (fun _ _ _ _ _ => (de_call (ok_four_of T) (hr.mono (by decide)) rfl T.g_four_of T.F_four_of.kp T.b_four_of takes0 (da_cons (DE.o (de_t1 call_list_of o_list rfl T.z_list (by decide +kernel) (DE.o (de_slLH (do_v 0 (pv 0)) (do_v 2 (pv 2)) (DE.o (de_bin op_addD o_add (do_v 2 (pv 2)) (DE.o de_int))))))) da_nil)))))))
      (dss_one (ds_ret (de_comp (own := [("at", 2)]) (g := gName 2) rfl rfl sc_sixty_of.nd (di_range3v rfl T.z_range (DE.o de_int) (DE.o (de_b1 call_len o_len rfl T.z_len (by decide +kernel) (do_v 1 (pv 1)))) (DE.o (de_gi rfl T.c_MOST_ROW))) (blkOk_by (own := [("at", 2)]) (N := ["row", "text", "at"]) (sc := defScope s_sixty_of) (by decide +kernel)) (cg_name 2) (fun _ _ _ _ _ => (pg_name (i := 2) sc_sixty_of.nd rfl (by first | exact Or.inl rfl | exact Or.inr rfl))) (fun _ _ _ _ _ => dts_nil) (fun _ _ _ _ _ => (de_slLH (do_v 1 (pv 1)) (do_v 2 (pv 2)) (DE.o (de_bin op_addD o_add (do_v 2 (pv 2)) (DE.o (de_gi rfl T.c_MOST_ROW)))))))))))
theorem ok_law (T : Fx K mg) : FnOk P w K mg base (L2.CX P w) 5 T.a_law T.fd_law ["_law_script"] (spD cl K 1 d_law) :=
  fn_ok (k := 4) T.F_law sc_law fun cdv A outer s H E hr =>
    (dss_cons (ds_set (i := 1) sc_law.nd rfl (by first | exact Or.inl rfl | exact Or.inr rfl) (de_call (ok__law_bytes T) (hr.mono (by decide)) rfl T.g__law_bytes T.F__law_bytes.kp T.b__law_bytes (takes_of rfl rfl rfl rfl) (da_cons (do_v 0 (pv 0)) da_nil)))
      (dss_cons (ds_set (i := 2) sc_law.nd rfl (by first | exact Or.inl rfl | exact Or.inr rfl) (de_lst (dae_cons (de_b1 call_len o_len rfl T.z_len (by decide +kernel) (do_v 1 (pv 1))) (dae_cons de_int dae_nil))))
      (dss_cons (ds_for (passes_of rfl) rfl (di_range1 rfl T.z_range (DE.o de_int)) (pg_name (i := 3) sc_law.nd rfl (by first | exact Or.inl rfl | exact Or.inr rfl)) (sg_name 3) (dss_cons (ds_set (i := 5) sc_law.nd rfl (by first | exact Or.inl rfl | exact Or.inr rfl) (de_call (ok__law_mixed T) (hr.mono (by decide)) rfl T.g__law_mixed T.F__law_mixed.kp T.b__law_mixed (takes_of rfl rfl rfl rfl) (da_cons (DE.o (de_call (ok__law_cell T) (hr.mono (by decide)) rfl T.g__law_cell T.F__law_cell.kp T.b__law_cell (takes_of rfl rfl rfl rfl) (da_cons (do_v 0 (pv 0)) (da_cons (do_v 3 (pv 3)) da_nil)))) (da_cons (DE.o (de_bin op_addD o_add (DE.o de_int) (do_v 3 (pv 3)))) da_nil))))
      (dss_cons (ds_set (i := 6) sc_law.nd rfl (by first | exact Or.inl rfl | exact Or.inr rfl) (de_bin op_fdiv o_div (do_v 5 (pv 5)) (DE.o de_int)))
      (dss_one (ds_app 2 (pv 2) (de_ix (fun _ _ => rfl) (DE.o (de_frz (de_lst (dae_cons (de_v 6 (pv 6)) (dae_cons (de_bin op_mulD o_mul (DE.o de_int) (DE.o (de_bin op_mod o_mod (do_v 6 (pv 6)) (DE.o de_int)))) (dae_cons (de_bin op_addD o_add (DE.o (de_bin op_mulD o_mul (DE.o de_int) (DE.o (de_bin op_mod o_mod (do_v 6 (pv 6)) (DE.o de_int))))) (DE.o de_int)) (dae_cons (de_bin op_addD o_add (DE.o de_int) (DE.o (de_bin op_mulD o_mul (DE.o de_int) (DE.o (de_bin op_mod o_mod (do_v 6 (pv 6)) (DE.o de_int)))))) dae_nil))))))) (DE.o (de_bin op_mod o_mod (do_v 5 (pv 5)) (DE.o de_int)))))))))
      (dss_cons (ds_frz 2 (ds_for (passes_of rfl) rfl (di_listS (do_v 2 (pv 2))) (pg_name (i := 4) sc_law.nd rfl (by first | exact Or.inl rfl | exact Or.inr rfl)) (sg_name 4) (dss_cons (ds_set (i := 7) sc_law.nd rfl (by first | exact Or.inl rfl | exact Or.inr rfl) (de_slHi (do_v 1 (pv 1)) (DE.o (de_bin op_mod o_mod (do_v 4 (pv 4)) (DE.o (de_bin op_addD o_add (DE.o (de_b1 call_len o_len rfl T.z_len (by decide +kernel) (do_v 1 (pv 1)))) (DE.o de_int)))))))
      (dss_cons (ds_set (i := 8) sc_law.nd rfl (by first | exact Or.inl rfl | exact Or.inr rfl) (de_call (ok__law_in_sixty T) (hr.mono (by decide)) rfl T.g__law_in_sixty T.F__law_in_sixty.kp T.b__law_in_sixty (takes_of rfl rfl rfl rfl) (da_cons (do_v 7 (pv 7)) da_nil)))
      (dss_cons (ds_set (i := 9) sc_law.nd rfl (by first | exact Or.inl rfl | exact Or.inr rfl) (de_t1 call_list_of o_list rfl T.z_list (by decide +kernel) (do_v 7 (pv 7))))
      (dss_one (ds_for (passes_of rfl) rfl (di_range1 rfl T.z_range (DE.o de_int)) (pg_name (i := 10) sc_law.nd rfl (by first | exact Or.inl rfl | exact Or.inr rfl)) (sg_name 10) (dss_cons (ds_set (i := 11) sc_law.nd rfl (by first | exact Or.inl rfl | exact Or.inr rfl) (de_call (ok_sixty_of T) (hr.mono (by decide)) rfl T.g_sixty_of T.F_sixty_of.kp T.b_sixty_of (takes_of rfl rfl rfl rfl) (da_cons (do_v 9 (pv 9)) da_nil)))
      (dss_cons (ds_if (DW.t (dw_or (dt_not (dt_val (de_call (ok__law_are_rows T) (hr.mono (by decide)) rfl T.g__law_are_rows T.F__law_are_rows.kp T.b__law_are_rows (takes_of rfl rfl rfl rfl) (da_cons (do_v 11 (pv 11)) (da_cons (do_v 8 (pv 8)) da_nil))))) (dw_or1 (dt_cmp (op_neD hr.units) o_ne (nomark _) (do_v 9 (pv 9)) (do_v 7 (pv 7)))))) (dss_one (ds_ret de_bl)) dss_nil)
      (dss_one (ds_app 11 (pv 11) (de_str t3_more e_t3_more c_t3_more))))))))))))
      (dss_one (ds_ret de_bl))))))
end
end Lk05


set_option maxHeartbeats 1000000
namespace Lk05
open G
abbrev SX : Tx := t0_ABCDEFGHIJKL
theorem line_ge : 1000000 ≤ LINE := by decide
def mx (c k : Int) : Int := (c * 48271 + 7919 * k * k * k + 104729) % 2147483647 * 16807 % 2147483629
def nxt (n k : Int) : Int := (n * (k * k + 1) + 1009 * k + 11) * 69621 % 2147483629
theorem mx_ok (c k : Int) : 0 ≤ mx c k ∧ mx c k < 2147483629 := ⟨Int.emod_nonneg _ (by decide), Int.emod_lt_of_pos _ (by decide)⟩
theorem nxt_ok (n k : Int) : 0 ≤ nxt n k ∧ nxt n k < 2147483629 := ⟨Int.emod_nonneg _ (by decide), Int.emod_lt_of_pos _ (by decide)⟩
theorem fits_small {k : Int} (h0 : 0 ≤ k) (h1 : k < 4294967296) : fits64 k = true := by
  simp [fits64]; omega
theorem mixed_eq (c k : Int) (h0 : 0 ≤ k) (h1 : k < 4294967296) : d__law_mixed [.int c, .int k] = .ok (.int (mx c k)) := by
  have e1 : fits64 48271 = true := by decide
  have e2 : fits64 7919 = true := by decide
  have e3 : fits64 16807 = true := by decide
  simp [d__law_mixed, runF, b__law_mixed, fMul, fAdd, fMod, e1, e2, e3, fits_small h0 h1, mx]
theorem next_eq (n k : Int) (h0 : 0 ≤ k) (h1 : k < 4294967296) (h2 : 0 ≤ n) (h3 : n < 4294967296) : d__law_next [.int n, .int k] = .ok (.int (nxt n k)) := by
  have e1 : fits64 1009 = true := by decide
  have e2 : fits64 69621 = true := by decide
  simp [d__law_next, runF, b__law_next, fMul, fAdd, fMod, e1, e2, fits_small h0 h1, fits_small h2 h3, nxt]
def sgn (S : Tx) (i : Int) : Nat := S.getD i.toNat 0
theorem ix_ok (S : Tx) (i : Int) (h0 : 0 ≤ i) (h1 : i < S.length) (hl : S.length ≤ LINE) : fIx (.str S) (.int i) = some (.str [sgn S i]) := by
  have h2 : i.toNat < S.length := by omega
  simp [fIx, ixD, hl, h0, h1, h2, sgn]
theorem flat_len {α : Type} (l : List α) (f : α → Nat) : ((l.map fun a => [f a]).map List.length).sum = l.length := by
  induction l with
  | nil => rfl
  | cons a l ih => simp only [List.map_cons, List.sum_cons, ih, List.length_cons, List.length_nil]; omega
theorem joinT_nil (l : List Tx) : (joinT [] l).length = (l.map List.length).sum := by
  induction l with
  | nil => rfl
  | cons a l ih =>
    cases l with
    | nil => simp [joinT]
    | cons b l =>
      simp only [joinT, List.nil_append, List.length_append, ih, List.map_cons, List.sum_cons]
theorem join_flat {α : Type} (f : α → Nat) : ∀ l : List α, joinT [] (l.map fun a => [f a]) = l.map f
  | [] => rfl
  | [a] => rfl
  | a :: b :: l => by
    have := join_flat f (b :: l)
    simp only [List.map_cons, joinT, List.nil_append] at this ⊢
    rw [this]; rfl
theorem sx_ok (i : Int) (h0 : 0 ≤ i) (h1 : i < 64) : fIx (.str SX) (.int i) = some (.str [sgn SX i]) := ix_ok SX i h0 (by show _ < (64 : Int); exact h1) (by decide)
theorem cell_eq (ns : List Int) (k : Nat) : ∃ v, d__law_cell [.scr ns, .int (k : Int)] = .ok (.int v) := by
  by_cases h : k < ns.length
  · have h2 : (k : Int) < (ns.length : Int) := by omega
    refine ⟨ns[k], ?_⟩
    simp [d__law_cell, runF, b__law_cell, fIx, ixD, h, h2]
  · have h2 : ¬ (k : Int) < (ns.length : Int) := by omega
    exact ⟨0, by simp [d__law_cell, runF, b__law_cell, h, h2]⟩
/-! ### four signs -/
def four : List Int → Tx
  | [a] => [sgn SX (a / 4), sgn SX (a % 4 * 16), 61, 61]
  | [a, b] => [sgn SX (a / 4), sgn SX (a % 4 * 16 + b / 16), sgn SX (b % 16 * 4), 61]
  | a :: b :: c :: _ => [sgn SX (a / 4), sgn SX (a % 4 * 16 + b / 16), sgn SX (b % 16 * 4 + c / 64), sgn SX (c % 64)]
  | [] => []
def byt (b : Int) : Prop := 0 ≤ b ∧ b < 256
theorem bor8 (i b : Int) (h0 : 0 ≤ i) (h1 : 0 ≤ b) (h2 : b < 256) : fBor (.int (i * 256)) (.int b) = some (.int (i * 256 + b)) := by
  obtain ⟨n, rfl⟩ : ∃ n : Nat, i = n := ⟨i.toNat, by omega⟩
  obtain ⟨m, rfl⟩ : ∃ m : Nat, b = m := ⟨b.toNat, by omega⟩
  have h3 : m < 2 ^ 8 := by omega
  have := Nat.two_pow_add_eq_or_of_lt h3 n
  have e : ((n : Int) * 256).toNat = 2 ^ 8 * n := by omega
  have h4 : (0 : Int) ≤ (n : Int) * 256 := by omega
  simp only [fBor, h4, h1, decide_true, Bool.and_self, if_true, e, Int.toNat_natCast, ← this]
  congr 2; omega
theorem shl8 (i : Int) (h0 : 0 ≤ i) (h1 : i < 4294967296) : fShl (.int i) (.int 8) = some (.int (i * 256)) := by
  have : i.natAbs < 18446744073709551616 := by omega
  simp [fShl, this]
theorem and63 (i : Int) (h0 : 0 ≤ i) : fBand (.int i) (.int 63) = some (.int (i % 64)) := by
  obtain ⟨n, rfl⟩ : ∃ n : Nat, i = n := ⟨i.toNat, by omega⟩
  have h2 := Nat.and_two_pow_sub_one_eq_mod n 6
  have h3 : n &&& 63 = n % 64 := h2
  simp only [fBand, h0, decide_true, Bool.and_self, if_true, Int.toNat_natCast, show (63 : Int).toNat = 63 from rfl, h3]
  simp
theorem shrN (i : Int) (k : Nat) : fShr (.int i) (.int (k : Int)) = some (.int (i / 2 ^ k)) := by
  simp [fShr]
theorem numb {x' : Option D} (a b c : Int) (ha : byt a) (hb : byt b) (hc : byt c) (y z : Option D) :
    forL (bN 2) (sSet 1 (e2 fBor (e2 fShl (eO 1) (eC (.int 8))) (eO 2))) [.int a, .int b, .int c] [x', some (.int 0), none, y, z] = .nx [x', some (.int (a * 65536 + b * 256 + c)), some (.int c), y, z] := by
  obtain ⟨ha, ha'⟩ := ha
  obtain ⟨hb, hb'⟩ := hb
  obtain ⟨hc, hc'⟩ := hc
  have e1 := shl8 0 (by omega) (by omega)
  have e2 := bor8 0 a (by omega) ha ha'
  have e3 := shl8 a (by omega) (by omega)
  have e4 := bor8 a b (by omega) hb hb'
  have e5 := shl8 (a * 256 + b) (by omega) (by omega)
  have e6 := bor8 (a * 256 + b) c (by omega) hc hc'
  simp at e1 e2
  simp [forL, e1, e2, e3, e4, e5, e6]
  omega
def R4 (n : Int) : Tx := [sgn SX (n / 262144 % 64), sgn SX (n / 4096 % 64), sgn SX (n / 64 % 64), sgn SX (n % 64)]
theorem four_loop (n : Int) (h0 : 0 ≤ n) (h1 : n < 16777216) (x y : Option D) :
    forL (bN 4) (sSet 3 (e2 fAdd (eO 3) (e2 fIx (eC (.str t0_ABCDEFGHIJKL)) (e2 fBand (e2 fShr (eO 1) (eO 4)) (eC (.int 63)))))) [.int 18, .int 12, .int 6, .int 0] [x, some (.int n), y, some (.str []), none]
      = .nx [x, some (.int n), y, some (.str (R4 n)), some (.int 0)] := by
  have a1 : fShr (.int n) (.int 18) = some (.int (n / 262144)) := shrN n 18
  have a2 : fShr (.int n) (.int 12) = some (.int (n / 4096)) := shrN n 12
  have a3 : fShr (.int n) (.int 6) = some (.int (n / 64)) := shrN n 6
  have a4 : fShr (.int n) (.int 0) = some (.int n) := by
    have := shrN n 0
    simpa using this
  have b1 := and63 (n / 262144) (by omega)
  have b2 := and63 (n / 4096) (by omega)
  have b3 := and63 (n / 64) (by omega)
  have b4 := and63 n h0
  have c1 := sx_ok (n / 262144 % 64) (by omega) (by omega)
  have c2 := sx_ok (n / 4096 % 64) (by omega) (by omega)
  have c3 := sx_ok (n / 64 % 64) (by omega) (by omega)
  have c4 := sx_ok (n % 64) (by omega) (by omega)
  have hL : 2 ≤ LINE ∧ 3 ≤ LINE ∧ 4 ≤ LINE ∧ 1 ≤ LINE := by decide
  simp [forL, a1, a2, a3, a4, b1, b2, b3, b4, c1, c2, c3, c4, hL, R4]
theorem four_eq (l : List Int) (h0 : l ≠ []) (h3 : l.length ≤ 3) (hb : ∀ b ∈ l, byt b) : d_four_of [.lst false (l.map .int)] = .ok (.str (four l)) := by
  have hL : 2 ≤ LINE ∧ 3 ≤ LINE ∧ 4 ≤ LINE ∧ 1 ≤ LINE := by decide
  have z0 : byt 0 := ⟨by omega, by omega⟩
  have f2 : fits62 2 = true := by decide
  have f1 : fits62 1 = true := by decide
  have f0 : fits62 0 = true := by decide
  match l, h0, h3, hb with
  | [a], _, _, HB =>
    have ha := HB a (by simp)
    have pa := ha
    have e1 := numb a 0 0 ha z0 z0 (x' := some (.lst false [.int a])) none none
    unfold byt at pa
    have e2 := four_loop (a * 65536 + 0 * 256 + 0) (by omega) (by omega) (some (.lst false [.int a])) (some (.int 0))
    have q : cutL (R4 (a * 65536 + 0 * 256 + 0)) none (some 2) = [sgn SX (a / 4), sgn SX (a % 4 * 16)] := by
      refine Eq.trans (cut_hiN _ 2) ?_
      simp only [List.take, R4]
      rw [show (a * 65536 + 0 * 256 + 0) / 262144 % 64 = a / 4 by omega, show (a * 65536 + 0 * 256 + 0) / 4096 % 64 = a % 4 * 16 by omega]
    have hl : (R4 (a * 65536 + 0 * 256 + 0)).length ≤ LINE := by show 4 ≤ LINE; decide
    generalize R4 (a * 65536 + 0 * 256 + 0) = R at q e2 hl
    generalize a * 65536 + 0 * 256 + 0 = N at e1 e2
    simp [d_four_of, runF, b_four_of, fMul, fAdd, hL, f0, f1, f2, e1, e2, t1_, t2_, four]
    simp [cutD, hl, q, hL, fAdd, f0, f1, f2]
  | [a, b], _, _, HB =>
    have ha := HB a (by simp)
    have pa := ha
    have hb := HB b (by simp)
    have pb := hb
    have e1 := numb a b 0 ha hb z0 (x' := some (.lst false [.int a, .int b])) none none
    unfold byt at pa pb
    have e2 := four_loop (a * 65536 + b * 256 + 0) (by omega) (by omega) (some (.lst false [.int a, .int b])) (some (.int 0))
    have q : cutL (R4 (a * 65536 + b * 256 + 0)) none (some 3) = [sgn SX (a / 4), sgn SX (a % 4 * 16 + b / 16), sgn SX (b % 16 * 4)] := by
      refine Eq.trans (cut_hiN _ 3) ?_
      simp only [List.take, R4]
      rw [show (a * 65536 + b * 256 + 0) / 262144 % 64 = a / 4 by omega, show (a * 65536 + b * 256 + 0) / 4096 % 64 = a % 4 * 16 + b / 16 by omega, show (a * 65536 + b * 256 + 0) / 64 % 64 = b % 16 * 4 by omega]
    have hl : (R4 (a * 65536 + b * 256 + 0)).length ≤ LINE := by show 4 ≤ LINE; decide
    generalize R4 (a * 65536 + b * 256 + 0) = R at q e2 hl
    generalize a * 65536 + b * 256 + 0 = N at e1 e2
    simp [d_four_of, runF, b_four_of, fMul, fAdd, hL, f0, f1, f2, e1, e2, t1_, t2_, four]
    simp [cutD, hl, q, hL, fAdd, f0, f1, f2]
  | [a, b, c], _, _, HB =>
    have ha := HB a (by simp)
    have pa := ha
    have hb := HB b (by simp)
    have pb := hb
    have hc := HB c (by simp)
    have pc := hc
    have e1 := numb a b c ha hb hc (x' := some (.lst false [.int a, .int b, .int c])) none none
    unfold byt at pa pb pc
    have e2 := four_loop (a * 65536 + b * 256 + c) (by omega) (by omega) (some (.lst false [.int a, .int b, .int c])) (some (.int c))
    have q : cutL (R4 (a * 65536 + b * 256 + c)) none (some 4) = [sgn SX (a / 4), sgn SX (a % 4 * 16 + b / 16), sgn SX (b % 16 * 4 + c / 64), sgn SX (c % 64)] := by
      refine Eq.trans (cut_hiN _ 4) ?_
      simp only [List.take, R4]
      rw [show (a * 65536 + b * 256 + c) / 262144 % 64 = a / 4 by omega, show (a * 65536 + b * 256 + c) / 4096 % 64 = a % 4 * 16 + b / 16 by omega, show (a * 65536 + b * 256 + c) / 64 % 64 = b % 16 * 4 + c / 64 by omega, show (a * 65536 + b * 256 + c) % 64 = c % 64 by omega]
    have hl : (R4 (a * 65536 + b * 256 + c)).length ≤ LINE := by show 4 ≤ LINE; decide
    generalize R4 (a * 65536 + b * 256 + c) = R at q e2 hl
    generalize a * 65536 + b * 256 + c = N at e1 e2
    simp [d_four_of, runF, b_four_of, fMul, fAdd, hL, f0, f1, f2, e1, e2, t1_, t2_, four]
    simp [cutD, hl, q, hL, fAdd, f0, f1, f2]
end Lk05


set_option maxHeartbeats 1000000
namespace Lk05
open G
/-! ### the plain law -/
def f6 (l : List Int) : Int := l.foldl (fun x b => 2 * x + b) 0
def bit8 (b : Int) : List Int := [b / 128 % 2, b / 64 % 2, b / 32 % 2, b / 16 % 2, b / 8 % 2, b / 4 % 2, b / 2 % 2, b / 1 % 2]
def padI (n m : Nat) : Nat := (-(n : Int) % (m : Int)).toNat
def bitsOf (B : List Int) : List Int := B.flatMap bit8
def bitsP (B : List Int) : List Int := bitsOf B ++ List.replicate (padI (bitsOf B).length 6) 0
def sx (B : List Int) : Tx := (chk 6 (bitsP B)).map fun p => sgn SX (f6 p)
def sxP (B : List Int) : Tx := sx B ++ List.replicate (padI (sx B).length 4) 61
def enc (B : List Int) : Tx := ((chk 3 B).map four).flatten
theorem chk3 {α : Type} (a b c : α) (l : List α) : chk 3 (a :: b :: c :: l) = [a, b, c] :: chk 3 l := by
  rw [chk_cons 3 (by decide) _ (by simp)]; rfl
theorem chk6 {α : Type} (a b c d e f : α) (l : List α) : chk 6 (a :: b :: c :: d :: e :: f :: l) = [a, b, c, d, e, f] :: chk 6 l := by
  rw [chk_cons 6 (by decide) _ (by simp)]; rfl
theorem bits_cons3 (a b c : Int) (r : List Int) : bitsP (a :: b :: c :: r) = bit8 a ++ (bit8 b ++ (bit8 c ++ bitsP r)) := by
  have h : (bitsOf (a :: b :: c :: r)).length = (bitsOf r).length + 24 := by
    simp [bitsOf, bit8]
  have hp : padI ((bitsOf r).length + 24) 6 = padI (bitsOf r).length 6 := by
    unfold padI; omega
  unfold bitsP
  rw [h, hp]
  simp [bitsOf]
theorem six1 (a : Int) (h : byt a) : f6 [a / 128 % 2, a / 64 % 2, a / 32 % 2, a / 16 % 2, a / 8 % 2, a / 4 % 2] = a / 4 := by
  unfold byt at h
  simp only [f6, List.foldl]; omega
theorem six2 (a b : Int) (h : byt a) (h2 : byt b) : f6 [a / 2 % 2, a / 1 % 2, b / 128 % 2, b / 64 % 2, b / 32 % 2, b / 16 % 2] = a % 4 * 16 + b / 16 := by
  unfold byt at h h2
  simp only [f6, List.foldl]; omega
theorem six3 (a b : Int) (h : byt a) (h2 : byt b) : f6 [a / 8 % 2, a / 4 % 2, a / 2 % 2, a / 1 % 2, b / 128 % 2, b / 64 % 2] = a % 16 * 4 + b / 64 := by
  unfold byt at h h2
  simp only [f6, List.foldl]; omega
theorem six4 (b : Int) (h2 : byt b) : f6 [b / 32 % 2, b / 16 % 2, b / 8 % 2, b / 4 % 2, b / 2 % 2, b / 1 % 2] = b % 64 := by
  unfold byt at h2
  simp only [f6, List.foldl]; omega
theorem six2z (a : Int) (h : byt a) : f6 [a / 2 % 2, a / 1 % 2, 0, 0, 0, 0] = a % 4 * 16 := by
  unfold byt at h
  simp only [f6, List.foldl]; omega
theorem six3z (a : Int) (h : byt a) : f6 [a / 8 % 2, a / 4 % 2, a / 2 % 2, a / 1 % 2, 0, 0] = a % 16 * 4 := by
  unfold byt at h
  simp only [f6, List.foldl]; omega
theorem sx3 (a b c : Int) (r : List Int) (ha : byt a) (hb : byt b) (hc : byt c) : sx (a :: b :: c :: r) = four [a, b, c] ++ sx r := by
  unfold sx
  rw [bits_cons3]
  simp only [bit8, List.cons_append, List.nil_append, chk6, List.map_cons, six1 a ha, six2 a b ha hb, six3 b c hb hc, six4 c hc, four]
theorem sx_enc : ∀ B : List Int, (∀ b ∈ B, byt b) → sxP B = enc B
  | [], _ => by
    have h1 : bitsP [] = [] := rfl
    have h2 : sx [] = [] := by unfold sx; rw [h1, chk_nil 6 (by decide)]; rfl
    unfold sxP enc
    rw [h2, chk_nil 3 (by decide)]; rfl
  | [a], h => by
    have ha := h a (by simp)
    have h1 : bitsP [a] = bit8 a ++ [0, 0, 0, 0] := by
      unfold bitsP; rw [show (bitsOf [a]).length = 8 by simp [bitsOf, bit8], show padI 8 6 = 4 by decide]; simp [bitsOf, List.replicate]
    have h2 : sx [a] = [sgn SX (a / 4), sgn SX (a % 4 * 16)] := by
      unfold sx; rw [h1]
      simp only [bit8, List.cons_append, List.nil_append, chk6, chk_nil 6 (by decide), List.map_cons, List.map_nil, six1 a ha, six2z a ha]
    have h3 : chk 3 [a] = [[a]] := by rw [chk_cons 3 (by decide) _ (by simp)]; simp [chk_nil]
    unfold sxP enc
    rw [h2, h3]; rfl
  | [a, b], h => by
    have ha := h a (by simp)
    have hb := h b (by simp)
    have h1 : bitsP [a, b] = bit8 a ++ (bit8 b ++ [0, 0]) := by
      unfold bitsP; rw [show (bitsOf [a, b]).length = 16 by simp [bitsOf, bit8], show padI 16 6 = 2 by decide]; simp [bitsOf, List.replicate]
    have h2 : sx [a, b] = [sgn SX (a / 4), sgn SX (a % 4 * 16 + b / 16), sgn SX (b % 16 * 4)] := by
      unfold sx; rw [h1]
      simp only [bit8, List.cons_append, List.nil_append, chk6, chk_nil 6 (by decide), List.map_cons, List.map_nil, six1 a ha, six2 a b ha hb, six3z b hb]
    have h3 : chk 3 [a, b] = [[a, b]] := by rw [chk_cons 3 (by decide) _ (by simp)]; simp [chk_nil]
    unfold sxP enc
    rw [h2, h3]; rfl
  | a :: b :: c :: r, h => by
    have ih := sx_enc r fun x hx => h x (by simp [hx])
    have e := sx3 a b c r (h a (by simp)) (h b (by simp)) (h c (by simp))
    have hp : padI ((sx r).length + 4) 4 = padI (sx r).length 4 := by unfold padI; omega
    unfold sxP at ih ⊢
    unfold enc at ih ⊢
    rw [e, chk3, List.map_cons, List.flatten_cons, ← ih, List.append_assoc]
    rw [show (four [a, b, c] ++ sx r).length = (sx r).length + 4 by simp [four], hp]
theorem four_len (l : List Int) : (four l).length ≤ 4 := by
  match l with
  | [] => simp [four]
  | [a] => simp [four]
  | [a, b] => simp [four]
  | a :: b :: c :: r => simp [four]
theorem chk_len {α : Type} (n : Nat) (l : List α) : (chk n l).length = (l.length + n - 1) / n := by simp [chk]
theorem flat_le (m : Nat) : ∀ l : List Tx, (∀ w ∈ l, w.length ≤ m) → l.flatten.length ≤ l.length * m
  | [], _ => by simp
  | p :: l, h => by
    have h1 := h p (by simp)
    have h2 := flat_le m l fun w hw => h w (List.mem_cons_of_mem _ hw)
    simp only [List.flatten_cons, List.length_append, List.length_cons, Nat.succ_mul]; omega
theorem enc_len (B : List Int) (hB : B.length ≤ 300) : (enc B).length ≤ 500 := by
  have := flat_le 4 ((chk 3 B).map four) (fun w hw => by
    obtain ⟨v, _, rfl⟩ := List.mem_map.mp hw
    exact four_len v)
  rw [List.length_map, chk_len] at this
  unfold enc
  omega
theorem joinT_flat : ∀ l : List Tx, joinT [] l = l.flatten
  | [] => rfl
  | [p] => by simp [joinT]
  | p :: q :: r => by
    have := joinT_flat (q :: r)
    simp only [joinT, List.nil_append, this]; simp
theorem len_sum : ∀ l : List Tx, (l.map List.length).sum = l.flatten.length
  | [] => rfl
  | p :: l => by simp
/-! ### the program's -/
theorem is_byte_eq (b : Int) (h : byt b) : d_is_byte [.int b] = .ok (.bl true) := by
  have h1 : d_is_whole [.int b] = .ok (.bl true) := by
    simp [d_is_whole, runF, b_is_whole, fIsT, isT]
  unfold byt at h
  have h3 : b ≤ 255 := by omega
  simp [d_is_byte, runF, b_is_byte, h1, h.1, h3]
theorem need_eq (B : List Int) (hB : B.length ≤ 300) (h : ∀ b ∈ B, byt b) : d_need_bytes [.lst false (B.map .int)] = .ok .non := by
  have hc : compL (cN 1) eYes (eCall d_is_byte [eO 1]) [some (.lst false (B.map .int)), none] (B.map .int) = .ok (B.map fun _ => .bl true) := by
    refine compL_mapf B fun b hb => ?_
    simp [is_byte_eq b (h b hb)]
  have hl : B.length ≤ LINE := Nat.le_trans (by omega : _ ≤ 1000) (by decide)
  have hfa : fAll (.lst true (B.map fun _ => .bl true)) = some (.bl true) := by
    simp only [fAll, boolsD_mapf, Option.map_some]
    simp
  simp [d_need_bytes, runF, b_need_bytes, fIsT, isT, hc, hl, hfa]
theorem fits_nat (n : Nat) (h : n ≤ 1000000) : fits62 (n : Int) = true := by simp [fits62]; omega
theorem chk_nil_iff {α : Type} (n : Nat) (l : List α) (p : List α) (hp : p ∈ chk n l) (hn : 0 < n) : p ≠ [] ∧ p.length ≤ n ∧ ∀ x ∈ p, x ∈ l := by
  obtain ⟨k, hk, rfl⟩ := List.mem_map.mp hp
  have hk' := List.mem_range.mp hk
  have hlt : k * n < l.length := by
    have := Nat.mul_le_of_le_div n (k + 1) _ (by omega : k + 1 ≤ (l.length + n - 1) / n)
    rw [Nat.add_mul] at this; omega
  refine ⟨?_, by simp; omega, fun x hx => List.mem_of_mem_drop (List.mem_of_mem_take hx)⟩
  intro e
  have := congrArg List.length e
  simp at this; omega
theorem sixty_eq (B : List Int) (hB : B.length ≤ 300) (h : ∀ b ∈ B, byt b) : d_sixty_of [.lst false (B.map .int)] = .ok (.lst true ((chk 60 (enc B)).map .str)) := by
  have hn1 := need_eq B hB h
  have hc1 : compL (cN 2) eYes (eCall d_four_of [e1 fList (eSlLH (eO 0) (eO 2) (e2 fAdd (eO 2) (eC (.int 3))))]) [some (.lst false (B.map .int)), none, none] (rangeC 0 3 ((B.length + 2) / 3)) = .ok (((chk 3 B).map four).map .str) := by
    refine compL_chk (n := 3) (fun k hk => ?_) (by decide)
    have hq := cut_LH (B.map D.int) (k * 3) 3
    rw [← List.map_drop, ← List.map_take] at hq
    have hm : ((B.drop (k * 3)).take 3) ≠ [] := fun e => by have := congrArg List.length e; simp at this; omega
    have hf := four_eq ((B.drop (k * 3)).take 3) hm (by simp; omega) (fun x hx => h x (List.mem_of_mem_drop (List.mem_of_mem_take hx)))
    generalize (B.drop (k * 3)).take 3 = P at hq hf
    have hcut : cutD (.lst false (B.map .int)) (some ((k * 3 : Nat) : Int)) (some (((k * 3 : Nat) : Int) + 3)) = some (.lst true (P.map .int)) := by
      simp only [cutD, shs_int, if_true]
      exact congrArg (fun z => some (D.lst true z)) hq
    generalize ((k * 3 : Nat) : Int) = z at hcut
    simp [hcut, fList, hf]
  have hT := enc_len B hB
  have hl3 : ((chk 3 B).map four).length ≤ LINE := by
    rw [List.length_map, chk_len]
    exact Nat.le_trans (by omega : _ ≤ 1000) (by decide)
  have hj : fJoin (.str []) (.lst true (((chk 3 B).map four).map .str)) = some (.str (enc B)) := by
    have hle : (enc B).length ≤ LINE := Nat.le_trans (by omega : _ ≤ 1000) (by decide)
    unfold enc at hle
    simp only [fJoin, strsD_map, Option.bind_some, len_sum, List.length_nil, Nat.mul_zero, Nat.add_zero, joinT_flat]
    rw [if_pos hle]; rfl
  generalize enc B = T at hT hj
  have hTl : T.length ≤ LINE := Nat.le_trans (by omega : _ ≤ 1000) (by decide)
  have hc2 : compL (cN 2) eYes (eSlLH (eO 1) (eO 2) (e2 fAdd (eO 2) (eC (.int 60)))) [some (.lst false (B.map .int)), some (.str T), none] (rangeC 0 60 ((T.length + 59) / 60)) = .ok (((chk 60 T).map id).map .str) := by
    refine compL_chk (n := 60) (fun k hk => ?_) (by decide)
    have hq := cut_LH T (k * 60) 60
    have hcut : cutD (.str T) (some ((k * 60 : Nat) : Int)) (some (((k * 60 : Nat) : Int) + 60)) = some (.str ((T.drop (k * 60)).take 60)) := by
      simp only [cutD, hTl, if_true]
      exact congrArg (fun z => some (D.str z)) hq
    generalize ((k * 60 : Nat) : Int) = z at hcut
    simp [hcut]
  rw [List.map_id] at hc2
  have hl60 : (chk 60 T).length ≤ LINE := by
    rw [chk_len]
    exact Nat.le_trans (by omega : _ ≤ 1000) (by decide)
  have t1 := turnsC_nat B.length 3 (by decide)
  have t2 := turnsC_nat T.length 60 (by decide)
  have g1 := fits_nat B.length (by omega)
  have g2 := fits_nat T.length (by omega)
  have g0 : fits62 0 = true := by decide
  generalize ((chk 3 B).map four) = Q at hc1 hl3 hj
  have t1' : turnsC 0 (B.length : Int) 3 = (B.length + 2) / 3 := t1
  have t2' : turnsC 0 (T.length : Int) 60 = (T.length + 59) / 60 := t2
  simp [d_sixty_of, runF, b_sixty_of, hn1, g0, g1, t1', hc1, hl3, t1_, hj, hTl, g2, t2', hc2, hl60]
end Lk05


set_option maxHeartbeats 1000000
namespace Lk05
open G
theorem bits_eq (b : Int) : d__law_bits [.int b, .int 8] = .ok (.lst true ((bit8 b).map .int)) := by
  have f8 : fits62 8 = true := by decide
  have hr : rangeD 0 8 = [.int 0, .int 1, .int 2, .int 3, .int 4, .int 5, .int 6, .int 7] := rfl
  have hL : 8 ≤ LINE := by decide
  simp [d__law_bits, runF, b__law_bits, f8, hr, compL, eYes, fIx, ixD, fDiv, bit8, hL]
def bitL (l : List Int) : Prop := ∀ b ∈ l, b = 0 ∨ b = 1
theorem f6_snoc (l : List Int) (b : Int) : f6 (l ++ [b]) = 2 * f6 l + b := by simp [f6, List.foldl_append]
theorem f6_lt : ∀ (n : Nat) (l : List Int), l.length = n → bitL l → 0 ≤ f6 l ∧ f6 l < 2 ^ n
  | 0, l, hl, _ => by
    have : l = [] := List.length_eq_zero_iff.mp hl
    subst this; simp [f6]
  | n + 1, l, hl, hb => by
    have hne : l ≠ [] := fun e => by subst e; simp at hl
    obtain ⟨l', b, rfl⟩ : ∃ l' b, l = l' ++ [b] := ⟨l.dropLast, l.getLast hne, (List.dropLast_concat_getLast hne).symm⟩
    obtain ⟨h1, h2⟩ := f6_lt n l' (by simpa using hl) fun x hx => hb x (by simp [hx])
    have h3 := hb b (by simp)
    rw [f6_snoc, Int.pow_succ]
    omega
theorem number_eq (l : List Int) : d__law_number [.lst false (l.map .int)] = .ok (.int (f6 l)) := by
  obtain ⟨ρ2, hr, hI⟩ := forL_inv (b := bN 2) (body := sSet 1 (e2 fAdd (e2 fMul (eC (.int 2)) (eO 1)) (eO 2)))
    (fun k ρ => ∃ x : Option D, ρ = [some (.lst false (l.map .int)), some (.int (f6 (l.take k))), x]) (l.map .int) 0 [some (.lst false (l.map .int)), some (.int 0), none] ⟨none, by simp [f6]⟩ (by
      rintro i x ρ hx ⟨x0, rfl⟩
      rw [List.getElem?_map] at hx
      obtain ⟨b, hb, rfl⟩ := Option.map_eq_some_iff.mp hx
      simp only [Nat.zero_add]
      have e : f6 (l.take (i + 1)) = 2 * f6 (l.take i) + b := by
        rw [List.take_succ, hb]; exact f6_snoc _ _
      have f2 : fits64 2 = true := by decide
      refine ⟨[some (.lst false (l.map .int)), some (.int (f6 (l.take i))), some (.int b)], _, by simp, .inl ?_, some (.int b), rfl⟩
      rw [e]
      generalize f6 (l.take i) = z
      simp [fMul, f2])
  obtain ⟨x, rfl⟩ := hI
  rw [show 0 + (l.map D.int).length = l.length by simp, List.take_length] at hr
  simp [d__law_number, runF, b__law_number, hr]
theorem bit8_bits (b : Int) : bitL (bit8 b) := by
  intro x hx
  simp only [bit8, List.mem_cons, List.not_mem_nil, or_false] at hx
  omega
theorem bitsP_bits (B : List Int) : bitL (bitsP B) := by
  intro x hx
  rcases List.mem_append.mp hx with h | h
  · obtain ⟨b, _, h2⟩ := List.mem_flatMap.mp h
    exact bit8_bits b x h2
  · exact .inl (List.eq_of_mem_replicate h)
theorem bitsOf_len : ∀ B : List Int, (bitsOf B).length = 8 * B.length
  | [] => rfl
  | b :: B => by
    have := bitsOf_len B
    simp only [bitsOf, List.flatMap_cons, List.length_append, List.length_cons] at this ⊢
    rw [this]; simp [bit8]; omega
theorem bitsP_len (B : List Int) (hB : B.length ≤ 300) : (bitsP B).length ≤ 2406 := by
  unfold bitsP
  rw [List.length_append, List.length_replicate, bitsOf_len]
  unfold padI; omega
theorem sx_len (B : List Int) (hB : B.length ≤ 300) : (sx B).length ≤ 500 := by
  have := bitsP_len B hB
  unfold sx
  rw [List.length_map, chk_len]; omega
theorem rep_flat {α : Type} (n : Nat) (a : α) : (List.replicate n [a]).flatten = List.replicate n a := by simp
theorem pad_int (n m : Nat) (hm : 0 < m) : ((padI n m : Nat) : Int) = -(n : Int) % (m : Int) := by
  unfold padI
  have := Int.emod_nonneg (-(n : Int)) (show (m : Int) ≠ 0 by omega)
  omega
theorem chk_drop (T : Tx) (h : T ≠ []) : chk 60 T = T.take 60 :: chk 60 (T.drop 60) := chk_cons 60 (by decide) T h
theorem in_sixty_eq (B : List Int) (hB : B.length ≤ 300) (h : ∀ b ∈ B, byt b) : d__law_in_sixty [.lst false (B.map .int)] = .ok (.lst true ((chk 60 (enc B)).map .str)) := by
  obtain ⟨ρ2, hr, hI⟩ := forL_inv (b := bN 2) (body := sExt 1 (eCall d__law_bits [eO 2, eC (.int 8)]))
    (fun k ρ => k ≤ B.length ∧ ∃ x : Option D, ρ = [some (.lst false (B.map .int)), some (.lst true ((bitsOf (B.take k)).map .int)), x, none, none, none]) (B.map .int) 0 [some (.lst false (B.map .int)), some (.lst true []), none, none, none, none] ⟨by omega, none, by simp [bitsOf]⟩ (by
      rintro i x ρ hx ⟨hi, x0, rfl⟩
      rw [List.getElem?_map] at hx
      obtain ⟨b, hb, rfl⟩ := Option.map_eq_some_iff.mp hx
      have hlt := (List.getElem?_eq_some_iff.mp hb).1
      simp only [Nat.zero_add] at hi ⊢
      have e : bitsOf (B.take (i + 1)) = bitsOf (B.take i) ++ bit8 b := by
        rw [List.take_succ, hb]; simp [bitsOf]
      have hl := bitsOf_len (B.take i)
      rw [List.length_take] at hl
      have hle : (bitsOf (B.take i)).length + (bit8 b).length ≤ LINE := Nat.le_trans (by rw [show (bit8 b).length = 8 from rfl]; omega : _ ≤ 10000) (by decide)
      refine ⟨[some (.lst false (B.map .int)), some (.lst true ((bitsOf (B.take i)).map .int)), some (.int b), none, none, none], _, by simp, .inl ?_, by omega, some (.int b), rfl⟩
      rw [e]
      generalize bitsOf (B.take i) = z at hle
      have hbe := bits_eq b
      generalize bit8 b = y at hle hbe
      simp [hbe, hle])
  obtain ⟨_, x, rfl⟩ := hI
  rw [show 0 + (B.map D.int).length = B.length by simp, List.take_length] at hr
  have hbl := bitsOf_len B
  have hpl := bitsP_len B hB
  have hpe : bitsP B = bitsOf B ++ List.replicate (padI (bitsOf B).length 6) 0 := rfl
  have hpad := pad_int (bitsOf B).length 6 (by decide)
  have hpb : padI (bitsOf B).length 6 < 6 := by unfold padI; omega
  have hbits := bitsP_bits B
  have hsl := sx_len B hB
  have hse := sx_enc B h
  have hel := enc_len B hB
  unfold sxP at hse
  have hsx : (chk 6 (bitsP B)).map (fun p => sgn SX (f6 p)) = sx B := rfl
  have hcl := chk_len 6 (bitsP B)
  have hmul : fMul (.lst true [.int 0]) (.int (-((bitsOf B).length : Int) % 6)) = some (.lst true ((List.replicate (padI (bitsOf B).length 6) 0).map .int)) := by
    rw [show -((bitsOf B).length : Int) % 6 = ((padI (bitsOf B).length 6 : Nat) : Int) from hpad.symm]
    have q1 : padI (bitsOf B).length 6 ≤ LINE := Nat.le_trans (by omega : _ ≤ 1000) (by decide)
    have q2 := fits_nat (padI (bitsOf B).length 6) (by omega)
    simp [fMul, q1, q2]
  have hadd : fAdd (.lst true ((bitsOf B).map .int)) (.lst true ((List.replicate (padI (bitsOf B).length 6) 0).map .int)) = some (.lst true ((bitsP B).map .int)) := by
    have q1 : (bitsOf B).length + padI (bitsOf B).length 6 ≤ LINE := Nat.le_trans (by omega : _ ≤ 10000) (by decide)
    simp only [fAdd, List.length_map, List.length_replicate, q1, shs_int, decide_true, Bool.and_self, if_true, hpe, List.map_append]
  have hc : compL (cN 5) eYes (e2 fIx (eFrz (eCall0 d__law_sixty)) (eCall d__law_number [eSlLH (eO 1) (eO 5) (e2 fAdd (eO 5) (eC (.int 6)))])) [some (.lst false (B.map .int)), some (.lst true ((bitsP B).map .int)), x, none, none, none] (rangeC 0 6 (((bitsP B).length + 6 - 1) / 6)) = .ok (((chk 6 (bitsP B)).map (fun p => [sgn SX (f6 p)])).map .str) := by
    refine compL_chk (n := 6) (g := fun p => [sgn SX (f6 p)]) (fun k hk => ?_) (by decide)
    have hq := cut_LH ((bitsP B).map D.int) (k * 6) 6
    rw [← List.map_drop, ← List.map_take] at hq
    have hb2 : bitL (((bitsP B).drop (k * 6)).take 6) := fun y hy => hbits y (List.mem_of_mem_drop (List.mem_of_mem_take hy))
    have hlen : (((bitsP B).drop (k * 6)).take 6).length ≤ 6 := by simp; omega
    generalize ((bitsP B).drop (k * 6)).take 6 = P at hq hb2 hlen
    have hcut : cutD (.lst true ((bitsP B).map .int)) (some ((k * 6 : Nat) : Int)) (some (((k * 6 : Nat) : Int) + 6)) = some (.lst true (P.map .int)) := by
      simp only [cutD, shs_int, if_true]
      exact congrArg (fun z => some (D.lst true z)) hq
    have hf := f6_lt P.length P rfl hb2
    have hpw : (2 : Int) ^ P.length ≤ 64 := by
      have : P.length = 0 ∨ P.length = 1 ∨ P.length = 2 ∨ P.length = 3 ∨ P.length = 4 ∨ P.length = 5 ∨ P.length = 6 := by omega
      rcases this with h | h | h | h | h | h | h <;> rw [h] <;> decide
    have hix := sx_ok (f6 P) hf.1 (by omega)
    have hnum := number_eq P
    have hsig : d__law_sixty [] = .ok (.str SX) := by simp [d__law_sixty, runF, b__law_sixty]
    generalize f6 P = v at hix hnum
    generalize ((k * 6 : Nat) : Int) = z at hcut
    generalize (bitsP B).map D.int = Z at hcut
    simp [hsig, hcut, hnum, hix]
  have hj : fJoin (.str []) (.lst true (((chk 6 (bitsP B)).map (fun p => [sgn SX (f6 p)])).map .str)) = some (.str (sx B)) := by
    have hle : (sx B).length ≤ LINE := Nat.le_trans (by omega : _ ≤ 1000) (by decide)
    have e0 : ((chk 6 (bitsP B)).map (fun p => [sgn SX (f6 p)])).flatten = sx B := by
      rw [← hsx, ← joinT_flat]; exact join_flat _ _
    simp only [fJoin, strsD_map, Option.bind_some, len_sum, List.length_nil, Nat.mul_zero, Nat.add_zero, joinT_flat, e0]
    rw [if_pos hle]
  have hcL : ((chk 6 (bitsP B)).map (fun p => [sgn SX (f6 p)])).length ≤ LINE := by
    rw [List.length_map, hcl]
    exact Nat.le_trans (by omega : _ ≤ 1000) (by decide)
  have t1 : turnsC 0 ((bitsP B).length : Int) 6 = ((bitsP B).length + 6 - 1) / 6 := turnsC_nat (bitsP B).length 6 (by decide)
  have g1 := fits_nat (bitsP B).length (by omega)
  have g0 : fits62 0 = true := by decide
  have hsL : (sx B).length ≤ LINE := Nat.le_trans (by omega : _ ≤ 1000) (by decide)
  have hpad4 := pad_int (sx B).length 4 (by decide)
  have hpb4 : padI (sx B).length 4 < 4 := by unfold padI; omega
  have hmul4 : fMul (.str [61]) (.int (-((sx B).length : Int) % 4)) = some (.str (List.replicate (padI (sx B).length 4) 61)) := by
    rw [show -((sx B).length : Int) % 4 = ((padI (sx B).length 4 : Nat) : Int) from hpad4.symm]
    have q1 : padI (sx B).length 4 ≤ LINE := Nat.le_trans (by omega : _ ≤ 1000) (by decide)
    have q2 := fits_nat (padI (sx B).length 4) (by omega)
    simp [fMul, q1, q2]
  have hadd4 : fAdd (.str (sx B)) (.str (List.replicate (padI (sx B).length 4) 61)) = some (.str (enc B)) := by
    have q1 : (sx B).length + padI (sx B).length 4 ≤ LINE := Nat.le_trans (by omega : _ ≤ 10000) (by decide)
    simp only [fAdd, List.length_replicate, q1, if_true, hse]
  generalize ((chk 6 (bitsP B)).map (fun p => [sgn SX (f6 p)])) = Q at hc hj hcL
  generalize padI (sx B).length 4 = p4 at hmul4 hadd4
  generalize (List.replicate (padI (bitsOf B).length 6) (0 : Int)).map D.int = Y6 at hmul hadd
  have hr' := hr
  generalize bitsOf B = Z1 at hr' hmul hadd
  generalize bitsP B = Z2 at hadd hc t1 g1
  generalize hsB : sx B = Z3 at hj hsL hmul4 hadd4
  have hw := whL_inv (c := e2 fNe (eO 3) (eC (.str t1_))) (body := sSeq (sApp 4 (eSlHi (eO 3) (eC (.int 60)))) (sSet 3 (eSlLo (eO 3) (eC (.int 60)))))
    (fun m ρ => ∃ (T : Tx) (R : List Tx), ρ = [some (.lst false (B.map .int)), some (.lst true (Z2.map .int)), x, some (.str T), some (.lst true (R.map .str)), none] ∧ T.length = m ∧ m ≤ 500 ∧ R.length + m ≤ 500 ∧ R ++ chk 60 T = chk 60 (enc B))
    (fun ρ => ρ = [some (.lst false (B.map .int)), some (.lst true (Z2.map .int)), x, some (.str []), some (.lst true ((chk 60 (enc B)).map .str)), none])
    1000000 (enc B).length [some (.lst false (B.map .int)), some (.lst true (Z2.map .int)), x, some (.str (enc B)), some (.lst true []), none] (by omega) ⟨enc B, [], rfl, rfl, hel, by simpa using hel, by simp⟩ (by
      rintro m ρ ⟨T, R, rfl, hTm, hm, hR, hch⟩
      by_cases hT : T = []
      · subst hT
        rw [chk_nil 60 (by decide), List.append_nil] at hch
        refine .inl ⟨by simp [t1_], by rw [hch]⟩
      · have hTp : 0 < T.length := List.length_pos_iff.mpr hT
        have hTl : T.length ≤ LINE := Nat.le_trans (by omega : _ ≤ 1000) (by decide)
        have hRl : R.length < LINE := Nat.lt_of_lt_of_le (by omega : _ < 1000) (by decide)
        have c1 : cutD (.str T) none (some 60) = some (.str (T.take 60)) := by
          simp only [cutD, hTl, if_true]; rw [show (60 : Int) = ((60 : Nat) : Int) from rfl, cut_hiN]
        have c2 : cutD (.str T) (some 60) none = some (.str (T.drop 60)) := by
          simp only [cutD, hTl, if_true]; rw [show (60 : Int) = ((60 : Nat) : Int) from rfl, cut_loN]
        refine .inr ⟨by simp [t1_, hT], [some (.lst false (B.map .int)), some (.lst true (Z2.map .int)), x, some (.str (T.drop 60)), some (.lst true ((R ++ [T.take 60]).map .str)), none], (T.drop 60).length, .inl ?_, by simp; omega, T.drop 60, R ++ [T.take 60], rfl, rfl, by simp; omega, by simp; omega, ?_⟩
        · generalize T.take 60 = U at c1
          generalize T.drop 60 = V at c2
          simp [c1, c2, hRl]
        · rw [List.append_assoc, List.singleton_append, ← chk_drop T hT, hch])
  obtain ⟨ρ3, hw, rfl⟩ := hw
  have t1' : turnsC 0 (Z2.length : Int) 6 = (Z2.length + 5) / 6 := t1
  have hc' := hc
  simp only [show Z2.length + 6 - 1 = Z2.length + 5 by omega] at hc'
  simp [d__law_in_sixty, runF, b__law_in_sixty, hr', hmul, hadd, g0, g1, t1', hc', hcL, t1_, hj, t2_, hsL, hmul4, hadd4]
  simp [t1_] at hw
  simp [hw]
end Lk05


set_option maxHeartbeats 1000000
namespace Lk05
open G
def okB (B : List Int) (m : Nat) : Prop := B.length ≤ m ∧ ∀ b ∈ B, byt b
theorem bytes_ok (ns : List Int) (hl : ns.length ≤ 63) : ∃ B : List Int, d__law_bytes [.scr ns] = .ok (.lst true (B.map .int)) ∧ okB B 300 := by
  have hcut : ∃ L : List Int, cutD (.scr ns) none (some 63) = some (.lst true (L.map .int)) ∧ L.length ≤ 63 := by
    refine ⟨_, rfl, ?_⟩
    have : (cutL ns none (some 63)).length ≤ ns.length := by
      simp only [cutL, List.length_take, List.length_drop]; omega
    omega
  obtain ⟨L, hcut, hL⟩ := hcut
  obtain ⟨ρ2, hr, hI⟩ := forL_inv (b := bT [2, 3]) (body := (sSeq (sSet 4 (eCall d__law_mixed [eO 3, eO 2])) (sFor (iRange1 (e2 fAdd (eC (.int 1)) (e2 fMod (eO 4) (eC (.int 4))))) (bN 5) (sSeq (sSet 6 (eCall d__law_next [eO 4, eO 5])) (sApp 1 (e2 fIx (eFrz (eL [e2 fMod (e2 fDiv (eO 6) (eC (.int 4))) (eC (.int 256)), eC (.int 255), eC (.int 0), e2 fMod (e2 fDiv (eO 6) (eC (.int 4))) (eC (.int 256))])) (e2 fMod (eO 6) (eC (.int 4)))))))))
    (fun k ρ => ∃ (B : List Int) (a b c d e : Option D), ρ = [some (.scr ns), some (.lst true (B.map .int)), a, b, c, d, e] ∧ okB B (4 * k)) (enumFrom 0 (L.map .int)) 0 [some (.scr ns), some (.lst true []), none, none, none, none, none] ⟨[], none, none, none, none, none, rfl, by simp [okB]⟩ (by
      rintro i x ρ hx ⟨B, a, b, c, d, e, rfl, hB⟩
      obtain ⟨v, rfl, hv, hi⟩ := enumD_ints _ _ _ hx
      have hi' : i < 63 := by omega
      have he1 := mixed_eq v i (by omega) (by omega)
      have hm := mx_ok v i
      simp only [Nat.zero_add] at hB ⊢
      generalize mx v i = n at he1 hm
      obtain ⟨ρ3, hr3, hI3⟩ := forL_inv (b := bN 5) (body := (sSeq (sSet 6 (eCall d__law_next [eO 4, eO 5])) (sApp 1 (e2 fIx (eFrz (eL [e2 fMod (e2 fDiv (eO 6) (eC (.int 4))) (eC (.int 256)), eC (.int 255), eC (.int 0), e2 fMod (e2 fDiv (eO 6) (eC (.int 4))) (eC (.int 256))])) (e2 fMod (eO 6) (eC (.int 4)))))))
        (fun k ρ => ∃ (B : List Int) (d e : Option D), ρ = [some (.scr ns), some (.lst true (B.map .int)), some (.int i), some (.int v), some (.int n), d, e] ∧ okB B (4 * i + k)) (rangeD 0 (1 + n % 4).toNat) 0 [some (.scr ns), some (.lst true (B.map .int)), some (.int i), some (.int v), some (.int n), d, e] ⟨B, d, e, rfl, hB⟩ (by
          rintro j x ρ hx ⟨B, d, e, rfl, hB⟩
          obtain ⟨rfl, hj⟩ := rangeD_get0 _ _ _ hx
          simp only [Nat.zero_add] at hB ⊢
          have he2 := next_eq n j (by omega) (by omega) (by omega) (by omega)
          have hn := nxt_ok n j
          generalize nxt n j = m at he2 hn
          have hq : ∃ z : Int, fIx (.lst false [.int (m / 4 % 256), .int 255, .int 0, .int (m / 4 % 256)]) (.int (m % 4)) = some (.int z) ∧ byt z := by
            have h9 : m % 4 = 0 ∨ m % 4 = 1 ∨ m % 4 = 2 ∨ m % 4 = 3 := by omega
            unfold byt
            rcases h9 with h | h | h | h <;> rw [h]
            · exact ⟨m / 4 % 256, by simp [fIx, ixD], by omega, by omega⟩
            · exact ⟨255, by simp [fIx, ixD], by omega, by omega⟩
            · exact ⟨0, by simp [fIx, ixD], by omega, by omega⟩
            · exact ⟨m / 4 % 256, by simp [fIx, ixD], by omega, by omega⟩
          obtain ⟨z, hz, hzb⟩ := hq
          have hlen : B.length < LINE := Nat.lt_of_lt_of_le (by have := hB.1; omega : _ < 1000) (by decide)
          refine ⟨[some (.scr ns), some (.lst true (B.map .int)), some (.int i), some (.int v), some (.int n), some (.int j), e], [some (.scr ns), some (.lst true ((B ++ [z]).map .int)), some (.int i), some (.int v), some (.int n), some (.int j), some (.int m)], by simp, .inl ?_, B ++ [z], _, _, rfl, by have := hB.1; simp; omega, ?_⟩
          · simp [he2, hz, hlen]
          · intro b hb
            rcases List.mem_append.mp hb with h | h
            · exact hB.2 b h
            · rw [List.mem_singleton.mp h]; exact hzb)
      obtain ⟨B3, d3, e3, rfl, hB3⟩ := hI3
      have hf : fits62 (1 + n % 4) = true := by simp [fits62]; omega
      refine ⟨[some (.scr ns), some (.lst true (B.map .int)), some (.int i), some (.int v), c, d, e], [some (.scr ns), some (.lst true (B3.map .int)), some (.int i), some (.int v), some (.int n), d3, e3], by simp, .inl ?_, B3, _, _, _, _, _, rfl, ?_, hB3.2⟩
      · simp [he1, hf, hr3]
      · have := hB3.1
        rw [rangeD_len] at this
        omega)
  obtain ⟨B, a, b, c, d, e, rfl, hB⟩ := hI
  rw [enumD_len, List.length_map] at hB
  refine ⟨B, ?_, by have := hB.1; omega, hB.2⟩
  simp [d__law_bytes, runF, b__law_bytes, hcut, hr]
theorem rows_same (R : List Tx) (hR : R.length ≤ 1000) : d__law_are_rows [.lst false (R.map .str), .lst false (R.map .str)] = .ok (.bl true) := by
  have hl : R.length ≤ LINE := Nat.le_trans hR (by decide)
  have hc : compL (cN 2) eYes (e1 (fIsT .str) (eO 2)) [some (.lst false (R.map .str)), some (.lst false (R.map .str)), none] (R.map .str) = .ok (R.map fun _ => .bl true) := by
    refine compL_mapf R fun b hb => ?_
    simp [fIsT, isT]
  have hfa : fAll (.lst true (R.map fun _ => .bl true)) = some (.bl true) := by
    simp only [fAll, boolsD_mapf, Option.map_some]
    simp
  simp [d__law_are_rows, runF, b__law_are_rows, fIsT, isT, hc, hl, hfa]
theorem law_true (ns : List Int) (hl : ns.length ≤ 63) : d_law [.scr ns] = .ok (.bl true) := by
  obtain ⟨B, hBe, hB, hBb⟩ := bytes_ok ns hl
  obtain ⟨ρ2, hr, hI⟩ := forL_inv (b := bN 3) (body := (sSeq (sSet 5 (eCall d__law_mixed [eCall d__law_cell [eO 0, eO 3], e2 fAdd (eC (.int 70)) (eO 3)])) (sSeq (sSet 6 (e2 fDiv (eO 5) (eC (.int 4)))) (sApp 2 (e2 fIx (eFrz (eL [eV 6, e2 fMul (eC (.int 45)) (e2 fMod (eO 6) (eC (.int 6))), e2 fAdd (e2 fMul (eC (.int 45)) (e2 fMod (eO 6) (eC (.int 6)))) (eC (.int 1)), e2 fAdd (eC (.int 44)) (e2 fMul (eC (.int 45)) (e2 fMod (eO 6) (eC (.int 5))))])) (e2 fMod (eO 5) (eC (.int 4))))))))
    (fun k ρ => ∃ (S : List Int) (a b c : Option D), ρ = [some (.scr ns), some (.lst true (B.map .int)), some (.lst true (S.map .int)), a, none, b, c, none, none, none, none, none] ∧ S.length ≤ 2 + k) (rangeD 0 6) 0 [some (.scr ns), some (.lst true (B.map .int)), some (.lst true [.int B.length, .int 0]), none, none, none, none, none, none, none, none, none] ⟨[(B.length : Int), 0], none, none, none, rfl, by simp⟩ (by
      rintro i x ρ hx ⟨S, a, b, c, rfl, hS⟩
      obtain ⟨rfl, hi⟩ := rangeD_get0 _ _ _ hx
      obtain ⟨v, hv⟩ := cell_eq ns i
      have he1 := mixed_eq v (70 + i) (by omega) (by omega)
      have hm := mx_ok v (70 + i)
      generalize mx v (70 + i) = n at he1 hm
      have f1 : fits64 45 = true := by decide
      have hq : ∃ z : Int, fIx (.lst false [.int (n / 4), .int (45 * (n / 4 % 6)), .int (45 * (n / 4 % 6) + 1), .int (44 + 45 * (n / 4 % 5))]) (.int (n % 4)) = some (.int z) := by
        have h9 : n % 4 = 0 ∨ n % 4 = 1 ∨ n % 4 = 2 ∨ n % 4 = 3 := by omega
        rcases h9 with h | h | h | h <;> rw [h]
        · exact ⟨_, by simp [fIx, ixD]; rfl⟩
        · exact ⟨_, by simp [fIx, ixD]; rfl⟩
        · exact ⟨_, by simp [fIx, ixD]; rfl⟩
        · exact ⟨_, by simp [fIx, ixD]; rfl⟩
      obtain ⟨z, hz⟩ := hq
      have hlen : S.length < LINE := Nat.lt_of_lt_of_le (by omega : _ < 1000) (by decide)
      refine ⟨[some (.scr ns), some (.lst true (B.map .int)), some (.lst true (S.map .int)), some (.int i), none, b, c, none, none, none, none, none], [some (.scr ns), some (.lst true (B.map .int)), some (.lst true ((S ++ [z]).map .int)), some (.int i), none, some (.int n), some (.int (n / 4)), none, none, none, none, none], by simp, .inl ?_, S ++ [z], _, _, _, rfl, by simp; omega⟩
      simp [hv, he1, fMul, f1, hz, hlen])
  obtain ⟨S, a, b, c, rfl, hS⟩ := hI
  obtain ⟨ρ3, hr3, hI3⟩ := forL_inv (b := bN 4) (body := (sSeq (sSet 7 (eSlHi (eO 1) (e2 fMod (eO 4) (e2 fAdd (e1 fLen (eO 1)) (eC (.int 1)))))) (sSeq (sSet 8 (eCall d__law_in_sixty [eO 7])) (sSeq (sSet 9 (e1 fList (eO 7))) (sFor (iRange1 (eC (.int 2))) (bN 10) (sSeq (sSet 11 (eCall d_sixty_of [eO 9])) (sSeq (sIf (eOr (eNot (eCall d__law_are_rows [eO 11, eO 8])) (e2 fNe (eO 9) (eO 7))) (sRet (eC (.bl false))) sPass) (sApp 11 (eC (.str t3_more))))))))))
    (fun k ρ => ∃ (d e f g h i : Option D), ρ = [some (.scr ns), some (.lst true (B.map .int)), some (.lst false (S.map .int)), a, d, b, c, e, f, g, h, i]) (S.map .int) 0 [some (.scr ns), some (.lst true (B.map .int)), some (.lst false (S.map .int)), a, none, b, c, none, none, none, none, none] ⟨_, _, _, _, _, _, rfl⟩ (by
      rintro i x ρ hx ⟨d, e, f, g, h, j, rfl⟩
      rw [List.getElem?_map] at hx
      obtain ⟨s, hs, rfl⟩ := Option.map_eq_some_iff.mp hx
      have hp : (0 : Int) < (B.length : Int) + 1 := by omega
      obtain ⟨m, hm⟩ : ∃ m : Nat, s % ((B.length : Int) + 1) = (m : Int) := ⟨(s % ((B.length : Int) + 1)).toNat, by have := Int.emod_nonneg s (show (B.length : Int) + 1 ≠ 0 by omega); omega⟩
      have hmod : fMod (.int s) (.int ((B.length : Int) + 1)) = some (.int (m : Int)) := by rw [fMod_int _ _ hp, hm]
      have hcut : cutD (.lst true (B.map .int)) none (some (m : Int)) = some (.lst true ((B.take m).map .int)) := by
        simp only [cutD, shs_int, if_true, cut_hiN, List.map_take]
      have hCl : (B.take m).length ≤ 300 := by simp; omega
      have hCb : ∀ b ∈ B.take m, byt b := fun b hb => hBb b (List.mem_of_mem_take hb)
      have k1 := in_sixty_eq (B.take m) hCl hCb
      have k2 := sixty_eq (B.take m) hCl hCb
      have k4 : (chk 60 (enc (B.take m))).length ≤ 1000 := by
        have := enc_len (B.take m) hCl
        rw [chk_len]; omega
      generalize B.take m = C at hcut k1 k2 k4
      have k3 := rows_same (chk 60 (enc C)) k4
      generalize chk 60 (enc C) = R at k1 k2 k3 k4
      have hRl : R.length < LINE := Nat.lt_of_lt_of_le (by omega : _ < 2000) (by decide)
      obtain ⟨ρ5, hr5, hI5⟩ := forL_inv (b := bN 10) (body := (sSeq (sSet 11 (eCall d_sixty_of [eO 9])) (sSeq (sIf (eOr (eNot (eCall d__law_are_rows [eO 11, eO 8])) (e2 fNe (eO 9) (eO 7))) (sRet (eC (.bl false))) sPass) (sApp 11 (eC (.str t3_more))))))
        (fun k ρ => ∃ (h i : Option D), ρ = [some (.scr ns), some (.lst true (B.map .int)), some (.lst false (S.map .int)), a, some (.int s), b, c, some (.lst true (C.map .int)), some (.lst true (R.map .str)), some (.lst true (C.map .int)), h, i]) (rangeD 0 2) 0 [some (.scr ns), some (.lst true (B.map .int)), some (.lst false (S.map .int)), a, some (.int s), b, c, some (.lst true (C.map .int)), some (.lst true (R.map .str)), some (.lst true (C.map .int)), h, j] ⟨_, _, rfl⟩ (by
          rintro i x ρ hx ⟨h, j, rfl⟩
          obtain ⟨rfl, hi⟩ := rangeD_get0 _ _ _ hx
          refine ⟨[some (.scr ns), some (.lst true (B.map .int)), some (.lst false (S.map .int)), a, some (.int s), b, c, some (.lst true (C.map .int)), some (.lst true (R.map .str)), some (.lst true (C.map .int)), some (.int i), j], [some (.scr ns), some (.lst true (B.map .int)), some (.lst false (S.map .int)), a, some (.int s), b, c, some (.lst true (C.map .int)), some (.lst true (R.map .str)), some (.lst true (C.map .int)), some (.int i), some (.lst true (R.map .str ++ [.str t3_more]))], by simp, .inl ?_, _, _, rfl⟩
          simp [k2, k3, hRl])
      obtain ⟨h5, j5, rfl⟩ := hI5
      have f2 : fits62 2 = true := by decide
      refine ⟨[some (.scr ns), some (.lst true (B.map .int)), some (.lst false (S.map .int)), a, some (.int s), b, c, e, f, g, h, j], [some (.scr ns), some (.lst true (B.map .int)), some (.lst false (S.map .int)), a, some (.int s), b, c, some (.lst true (C.map .int)), some (.lst true (R.map .str)), some (.lst true (C.map .int)), h5, j5], by simp, .inl ?_, _, _, _, _, _, _, rfl⟩
      simp [hmod, hcut, k1, fList, f2, hr5])
  obtain ⟨d, e, f, g, h, i, rfl⟩ := hI3
  have f6 : fits62 6 = true := by decide
  simp [d_law, runF, b_law, hBe, f6, hr, hr3]
end Lk05


set_option maxHeartbeats 4000000
namespace Lk05
open PySem PySem.Spec PyProof.Rows L2 G
def mkFx {K : PySem.W.Frag} {mg : Str → Option Value} {h : Heap} (X : K.In h) (G : h.Ns mainGlobals mg)
    {f0 : Addr} {od0 an0 : Option Addr} {sl0 : Array (Option Value)} {oc0 kV0 dc0 pm0 cd0 ct0 : Value}
    (a0 : PySem.W.nsIn K mainGlobals "_law_are_rows" = some (some (.ref f0))) (l0 : K.lookup f0 = some ⟨oc0, od0, .func (PySem.W.fnOf "_law_are_rows" "_law_are_rows" (defArgs s__law_are_rows) (defBody s__law_are_rows) (defScope s__law_are_rows) .none kV0 dc0 pm0 an0 cd0 ct0), sl0⟩) (c0 : PySem.W.codeIn K cd0 "_law_are_rows" = true) (k0 : PySem.W.keepIn K (.ref f0) = true)
    {f1 : Addr} {od1 an1 : Option Addr} {sl1 : Array (Option Value)} {oc1 kV1 dc1 pm1 cd1 ct1 : Value}
    (a1 : PySem.W.nsIn K mainGlobals "_law_mixed" = some (some (.ref f1))) (l1 : K.lookup f1 = some ⟨oc1, od1, .func (PySem.W.fnOf "_law_mixed" "_law_mixed" (defArgs s__law_mixed) (defBody s__law_mixed) (defScope s__law_mixed) .none kV1 dc1 pm1 an1 cd1 ct1), sl1⟩) (c1 : PySem.W.codeIn K cd1 "_law_mixed" = true) (k1 : PySem.W.keepIn K (.ref f1) = true)
    {f2 : Addr} {od2 an2 : Option Addr} {sl2 : Array (Option Value)} {oc2 kV2 dc2 pm2 cd2 ct2 : Value}
    (a2 : PySem.W.nsIn K mainGlobals "_law_next" = some (some (.ref f2))) (l2 : K.lookup f2 = some ⟨oc2, od2, .func (PySem.W.fnOf "_law_next" "_law_next" (defArgs s__law_next) (defBody s__law_next) (defScope s__law_next) .none kV2 dc2 pm2 an2 cd2 ct2), sl2⟩) (c2 : PySem.W.codeIn K cd2 "_law_next" = true) (k2 : PySem.W.keepIn K (.ref f2) = true)
    {f3 : Addr} {od3 an3 : Option Addr} {sl3 : Array (Option Value)} {oc3 kV3 dc3 pm3 cd3 ct3 : Value}
    (a3 : PySem.W.nsIn K mainGlobals "_law_bytes" = some (some (.ref f3))) (l3 : K.lookup f3 = some ⟨oc3, od3, .func (PySem.W.fnOf "_law_bytes" "_law_bytes" (defArgs s__law_bytes) (defBody s__law_bytes) (defScope s__law_bytes) .none kV3 dc3 pm3 an3 cd3 ct3), sl3⟩) (c3 : PySem.W.codeIn K cd3 "_law_bytes" = true) (k3 : PySem.W.keepIn K (.ref f3) = true)
    {f4 : Addr} {od4 an4 : Option Addr} {sl4 : Array (Option Value)} {oc4 kV4 dc4 pm4 cd4 ct4 : Value}
    (a4 : PySem.W.nsIn K mainGlobals "_law_cell" = some (some (.ref f4))) (l4 : K.lookup f4 = some ⟨oc4, od4, .func (PySem.W.fnOf "_law_cell" "_law_cell" (defArgs s__law_cell) (defBody s__law_cell) (defScope s__law_cell) .none kV4 dc4 pm4 an4 cd4 ct4), sl4⟩) (c4 : PySem.W.codeIn K cd4 "_law_cell" = true) (k4 : PySem.W.keepIn K (.ref f4) = true)
    {f5 : Addr} {od5 an5 : Option Addr} {sl5 : Array (Option Value)} {oc5 kV5 dc5 pm5 cd5 ct5 : Value}
    (a5 : PySem.W.nsIn K mainGlobals "_law_bits" = some (some (.ref f5))) (l5 : K.lookup f5 = some ⟨oc5, od5, .func (PySem.W.fnOf "_law_bits" "_law_bits" (defArgs s__law_bits) (defBody s__law_bits) (defScope s__law_bits) .none kV5 dc5 pm5 an5 cd5 ct5), sl5⟩) (c5 : PySem.W.codeIn K cd5 "_law_bits" = true) (k5 : PySem.W.keepIn K (.ref f5) = true)
    {f6 : Addr} {od6 an6 : Option Addr} {sl6 : Array (Option Value)} {oc6 kV6 dc6 pm6 cd6 ct6 : Value}
    (a6 : PySem.W.nsIn K mainGlobals "_law_number" = some (some (.ref f6))) (l6 : K.lookup f6 = some ⟨oc6, od6, .func (PySem.W.fnOf "_law_number" "_law_number" (defArgs s__law_number) (defBody s__law_number) (defScope s__law_number) .none kV6 dc6 pm6 an6 cd6 ct6), sl6⟩) (c6 : PySem.W.codeIn K cd6 "_law_number" = true) (k6 : PySem.W.keepIn K (.ref f6) = true)
    {f7 : Addr} {od7 an7 : Option Addr} {sl7 : Array (Option Value)} {oc7 kV7 dc7 pm7 cd7 ct7 : Value}
    (a7 : PySem.W.nsIn K mainGlobals "_law_sixty" = some (some (.ref f7))) (l7 : K.lookup f7 = some ⟨oc7, od7, .func (PySem.W.fnOf "_law_sixty" "_law_sixty" (defArgs s__law_sixty) (defBody s__law_sixty) (defScope s__law_sixty) .none kV7 dc7 pm7 an7 cd7 ct7), sl7⟩) (c7 : PySem.W.codeIn K cd7 "_law_sixty" = true) (k7 : PySem.W.keepIn K (.ref f7) = true)
    {f8 : Addr} {od8 an8 : Option Addr} {sl8 : Array (Option Value)} {oc8 kV8 dc8 pm8 cd8 ct8 : Value}
    (a8 : PySem.W.nsIn K mainGlobals "_law_in_sixty" = some (some (.ref f8))) (l8 : K.lookup f8 = some ⟨oc8, od8, .func (PySem.W.fnOf "_law_in_sixty" "_law_in_sixty" (defArgs s__law_in_sixty) (defBody s__law_in_sixty) (defScope s__law_in_sixty) .none kV8 dc8 pm8 an8 cd8 ct8), sl8⟩) (c8 : PySem.W.codeIn K cd8 "_law_in_sixty" = true) (k8 : PySem.W.keepIn K (.ref f8) = true)
    {f9 : Addr} {od9 an9 : Option Addr} {sl9 : Array (Option Value)} {oc9 kV9 dc9 pm9 cd9 ct9 : Value}
    (a9 : PySem.W.nsIn K mainGlobals "four_of" = some (some (.ref f9))) (l9 : K.lookup f9 = some ⟨oc9, od9, .func (PySem.W.fnOf "four_of" "four_of" (defArgs s_four_of) (defBody s_four_of) (defScope s_four_of) .none kV9 dc9 pm9 an9 cd9 ct9), sl9⟩) (c9 : PySem.W.codeIn K cd9 "four_of" = true) (k9 : PySem.W.keepIn K (.ref f9) = true)
    {f10 : Addr} {od10 an10 : Option Addr} {sl10 : Array (Option Value)} {oc10 kV10 dc10 pm10 cd10 ct10 : Value}
    (a10 : PySem.W.nsIn K mainGlobals "is_whole" = some (some (.ref f10))) (l10 : K.lookup f10 = some ⟨oc10, od10, .func (PySem.W.fnOf "is_whole" "is_whole" (defArgs s_is_whole) (defBody s_is_whole) (defScope s_is_whole) .none kV10 dc10 pm10 an10 cd10 ct10), sl10⟩) (c10 : PySem.W.codeIn K cd10 "is_whole" = true) (k10 : PySem.W.keepIn K (.ref f10) = true)
    {f11 : Addr} {od11 an11 : Option Addr} {sl11 : Array (Option Value)} {oc11 kV11 dc11 pm11 cd11 ct11 : Value}
    (a11 : PySem.W.nsIn K mainGlobals "is_byte" = some (some (.ref f11))) (l11 : K.lookup f11 = some ⟨oc11, od11, .func (PySem.W.fnOf "is_byte" "is_byte" (defArgs s_is_byte) (defBody s_is_byte) (defScope s_is_byte) .none kV11 dc11 pm11 an11 cd11 ct11), sl11⟩) (c11 : PySem.W.codeIn K cd11 "is_byte" = true) (k11 : PySem.W.keepIn K (.ref f11) = true)
    {f12 : Addr} {od12 an12 : Option Addr} {sl12 : Array (Option Value)} {oc12 kV12 dc12 pm12 cd12 ct12 : Value}
    (a12 : PySem.W.nsIn K mainGlobals "need_bytes" = some (some (.ref f12))) (l12 : K.lookup f12 = some ⟨oc12, od12, .func (PySem.W.fnOf "need_bytes" "need_bytes" (defArgs s_need_bytes) (defBody s_need_bytes) (defScope s_need_bytes) .none kV12 dc12 pm12 an12 cd12 ct12), sl12⟩) (c12 : PySem.W.codeIn K cd12 "need_bytes" = true) (k12 : PySem.W.keepIn K (.ref f12) = true)
    {f13 : Addr} {od13 an13 : Option Addr} {sl13 : Array (Option Value)} {oc13 kV13 dc13 pm13 cd13 ct13 : Value}
    (a13 : PySem.W.nsIn K mainGlobals "sixty_of" = some (some (.ref f13))) (l13 : K.lookup f13 = some ⟨oc13, od13, .func (PySem.W.fnOf "sixty_of" "sixty_of" (defArgs s_sixty_of) (defBody s_sixty_of) (defScope s_sixty_of) .none kV13 dc13 pm13 an13 cd13 ct13), sl13⟩) (c13 : PySem.W.codeIn K cd13 "sixty_of" = true) (k13 : PySem.W.keepIn K (.ref f13) = true)
    {f14 : Addr} {od14 an14 : Option Addr} {sl14 : Array (Option Value)} {oc14 kV14 dc14 pm14 cd14 ct14 : Value}
    (a14 : PySem.W.nsIn K mainGlobals "law" = some (some (.ref f14))) (l14 : K.lookup f14 = some ⟨oc14, od14, .func (PySem.W.fnOf "law" "law" (defArgs s_law) (defBody s_law) (defScope s_law) .none kV14 dc14 pm14 an14 cd14 ct14), sl14⟩) (c14 : PySem.W.codeIn K cd14 "law" = true) (k14 : PySem.W.keepIn K (.ref f14) = true)
    (z_all : PySem.W.nsIn K mainGlobals "all" = some none)
    (z_bool : PySem.W.nsIn K mainGlobals "bool" = some none)
    (z_enumerate : PySem.W.nsIn K mainGlobals "enumerate" = some none)
    (z_int : PySem.W.nsIn K mainGlobals "int" = some none)
    (z_isinstance : PySem.W.nsIn K mainGlobals "isinstance" = some none)
    (z_len : PySem.W.nsIn K mainGlobals "len" = some none)
    (z_list : PySem.W.nsIn K mainGlobals "list" = some none)
    (z_range : PySem.W.nsIn K mainGlobals "range" = some none)
    (z_str : PySem.W.nsIn K mainGlobals "str" = some none)
    {t_MOST_ROW : Tok} (y_MOST_ROW : PySem.W.nsIn K mainGlobals "MOST_ROW" = some (some (.int 60 t_MOST_ROW)))
    (y_SIXTY : ∃ t, mg "SIXTY" = some (.str (tS t0_ABCDEFGHIJKL) t)) : Fx K mg where
    a__law_are_rows := f0
    fd__law_are_rows := PySem.W.fnOf "_law_are_rows" "_law_are_rows" (defArgs s__law_are_rows) (defBody s__law_are_rows) (defScope s__law_are_rows) .none kV0 dc0 pm0 an0 cd0 ct0
    F__law_are_rows := fun_mk (st := s__law_are_rows) l0 c0 k0
    g__law_are_rows := PySem.W.mg_of X G a0
    b__law_are_rows := (fun_mk (st := s__law_are_rows) l0 c0 k0).binds fun _ _ _ _ _ _ us hl => match us, hl with | [_, _], _ => rfl
    a__law_mixed := f1
    fd__law_mixed := PySem.W.fnOf "_law_mixed" "_law_mixed" (defArgs s__law_mixed) (defBody s__law_mixed) (defScope s__law_mixed) .none kV1 dc1 pm1 an1 cd1 ct1
    F__law_mixed := fun_mk (st := s__law_mixed) l1 c1 k1
    g__law_mixed := PySem.W.mg_of X G a1
    b__law_mixed := (fun_mk (st := s__law_mixed) l1 c1 k1).binds fun _ _ _ _ _ _ us hl => match us, hl with | [_, _], _ => rfl
    a__law_next := f2
    fd__law_next := PySem.W.fnOf "_law_next" "_law_next" (defArgs s__law_next) (defBody s__law_next) (defScope s__law_next) .none kV2 dc2 pm2 an2 cd2 ct2
    F__law_next := fun_mk (st := s__law_next) l2 c2 k2
    g__law_next := PySem.W.mg_of X G a2
    b__law_next := (fun_mk (st := s__law_next) l2 c2 k2).binds fun _ _ _ _ _ _ us hl => match us, hl with | [_, _], _ => rfl
    a__law_bytes := f3
    fd__law_bytes := PySem.W.fnOf "_law_bytes" "_law_bytes" (defArgs s__law_bytes) (defBody s__law_bytes) (defScope s__law_bytes) .none kV3 dc3 pm3 an3 cd3 ct3
    F__law_bytes := fun_mk (st := s__law_bytes) l3 c3 k3
    g__law_bytes := PySem.W.mg_of X G a3
    b__law_bytes := (fun_mk (st := s__law_bytes) l3 c3 k3).binds fun _ _ _ _ _ _ us hl => match us, hl with | [_], _ => rfl
    a__law_cell := f4
    fd__law_cell := PySem.W.fnOf "_law_cell" "_law_cell" (defArgs s__law_cell) (defBody s__law_cell) (defScope s__law_cell) .none kV4 dc4 pm4 an4 cd4 ct4
    F__law_cell := fun_mk (st := s__law_cell) l4 c4 k4
    g__law_cell := PySem.W.mg_of X G a4
    b__law_cell := (fun_mk (st := s__law_cell) l4 c4 k4).binds fun _ _ _ _ _ _ us hl => match us, hl with | [_, _], _ => rfl
    a__law_bits := f5
    fd__law_bits := PySem.W.fnOf "_law_bits" "_law_bits" (defArgs s__law_bits) (defBody s__law_bits) (defScope s__law_bits) .none kV5 dc5 pm5 an5 cd5 ct5
    F__law_bits := fun_mk (st := s__law_bits) l5 c5 k5
    g__law_bits := PySem.W.mg_of X G a5
    b__law_bits := (fun_mk (st := s__law_bits) l5 c5 k5).binds fun _ _ _ _ _ _ us hl => match us, hl with | [_, _], _ => rfl
    a__law_number := f6
    fd__law_number := PySem.W.fnOf "_law_number" "_law_number" (defArgs s__law_number) (defBody s__law_number) (defScope s__law_number) .none kV6 dc6 pm6 an6 cd6 ct6
    F__law_number := fun_mk (st := s__law_number) l6 c6 k6
    g__law_number := PySem.W.mg_of X G a6
    b__law_number := (fun_mk (st := s__law_number) l6 c6 k6).binds fun _ _ _ _ _ _ us hl => match us, hl with | [_], _ => rfl
    a__law_sixty := f7
    fd__law_sixty := PySem.W.fnOf "_law_sixty" "_law_sixty" (defArgs s__law_sixty) (defBody s__law_sixty) (defScope s__law_sixty) .none kV7 dc7 pm7 an7 cd7 ct7
    F__law_sixty := fun_mk (st := s__law_sixty) l7 c7 k7
    g__law_sixty := PySem.W.mg_of X G a7
    b__law_sixty := (fun_mk (st := s__law_sixty) l7 c7 k7).binds fun _ _ _ _ _ _ us hl => match us, hl with | [], _ => rfl
    a__law_in_sixty := f8
    fd__law_in_sixty := PySem.W.fnOf "_law_in_sixty" "_law_in_sixty" (defArgs s__law_in_sixty) (defBody s__law_in_sixty) (defScope s__law_in_sixty) .none kV8 dc8 pm8 an8 cd8 ct8
    F__law_in_sixty := fun_mk (st := s__law_in_sixty) l8 c8 k8
    g__law_in_sixty := PySem.W.mg_of X G a8
    b__law_in_sixty := (fun_mk (st := s__law_in_sixty) l8 c8 k8).binds fun _ _ _ _ _ _ us hl => match us, hl with | [_], _ => rfl
    a_four_of := f9
    fd_four_of := PySem.W.fnOf "four_of" "four_of" (defArgs s_four_of) (defBody s_four_of) (defScope s_four_of) .none kV9 dc9 pm9 an9 cd9 ct9
    F_four_of := fun_mk (st := s_four_of) l9 c9 k9
    g_four_of := PySem.W.mg_of X G a9
    b_four_of := (fun_mk (st := s_four_of) l9 c9 k9).binds fun _ _ _ _ _ _ us hl => match us, hl with | [_], _ => rfl
    a_is_whole := f10
    fd_is_whole := PySem.W.fnOf "is_whole" "is_whole" (defArgs s_is_whole) (defBody s_is_whole) (defScope s_is_whole) .none kV10 dc10 pm10 an10 cd10 ct10
    F_is_whole := fun_mk (st := s_is_whole) l10 c10 k10
    g_is_whole := PySem.W.mg_of X G a10
    b_is_whole := (fun_mk (st := s_is_whole) l10 c10 k10).binds fun _ _ _ _ _ _ us hl => match us, hl with | [_], _ => rfl
    a_is_byte := f11
    fd_is_byte := PySem.W.fnOf "is_byte" "is_byte" (defArgs s_is_byte) (defBody s_is_byte) (defScope s_is_byte) .none kV11 dc11 pm11 an11 cd11 ct11
    F_is_byte := fun_mk (st := s_is_byte) l11 c11 k11
    g_is_byte := PySem.W.mg_of X G a11
    b_is_byte := (fun_mk (st := s_is_byte) l11 c11 k11).binds fun _ _ _ _ _ _ us hl => match us, hl with | [_], _ => rfl
    a_need_bytes := f12
    fd_need_bytes := PySem.W.fnOf "need_bytes" "need_bytes" (defArgs s_need_bytes) (defBody s_need_bytes) (defScope s_need_bytes) .none kV12 dc12 pm12 an12 cd12 ct12
    F_need_bytes := fun_mk (st := s_need_bytes) l12 c12 k12
    g_need_bytes := PySem.W.mg_of X G a12
    b_need_bytes := (fun_mk (st := s_need_bytes) l12 c12 k12).binds fun _ _ _ _ _ _ us hl => match us, hl with | [_], _ => rfl
    a_sixty_of := f13
    fd_sixty_of := PySem.W.fnOf "sixty_of" "sixty_of" (defArgs s_sixty_of) (defBody s_sixty_of) (defScope s_sixty_of) .none kV13 dc13 pm13 an13 cd13 ct13
    F_sixty_of := fun_mk (st := s_sixty_of) l13 c13 k13
    g_sixty_of := PySem.W.mg_of X G a13
    b_sixty_of := (fun_mk (st := s_sixty_of) l13 c13 k13).binds fun _ _ _ _ _ _ us hl => match us, hl with | [_], _ => rfl
    a_law := f14
    fd_law := PySem.W.fnOf "law" "law" (defArgs s_law) (defBody s_law) (defScope s_law) .none kV14 dc14 pm14 an14 cd14 ct14
    F_law := fun_mk (st := s_law) l14 c14 k14
    g_law := PySem.W.mg_of X G a14
    b_law := (fun_mk (st := s_law) l14 c14 k14).binds fun _ _ _ _ _ _ us hl => match us, hl with | [_], _ => rfl
    z_all := PySem.W.mg_none_of X G z_all
    z_bool := PySem.W.mg_none_of X G z_bool
    z_enumerate := PySem.W.mg_none_of X G z_enumerate
    z_int := PySem.W.mg_none_of X G z_int
    z_isinstance := PySem.W.mg_none_of X G z_isinstance
    z_len := PySem.W.mg_none_of X G z_len
    z_list := PySem.W.mg_none_of X G z_list
    z_range := PySem.W.mg_none_of X G z_range
    z_str := PySem.W.mg_none_of X G z_str
    c_MOST_ROW := ⟨t_MOST_ROW, PySem.W.mg_of X G y_MOST_ROW⟩
    c_SIXTY := y_SIXTY
theorem end_mk {l : PySem.W.OpenLaw} {w : World} {K : PySem.W.Frag} {h : Heap} {mg : Str → Option Value} {fa : Addr} (X : K.In h) (G : h.Ns mainGlobals mg) (hfa : mg "law" = some (.ref fa))
    {f0 : Addr} {od0 an0 : Option Addr} {sl0 : Array (Option Value)} {oc0 kV0 dc0 pm0 cd0 ct0 : Value}
    (a0 : PySem.W.nsIn K mainGlobals "_law_are_rows" = some (some (.ref f0))) (l0 : K.lookup f0 = some ⟨oc0, od0, .func (PySem.W.fnOf "_law_are_rows" "_law_are_rows" (defArgs s__law_are_rows) (defBody s__law_are_rows) (defScope s__law_are_rows) .none kV0 dc0 pm0 an0 cd0 ct0), sl0⟩) (c0 : PySem.W.codeIn K cd0 "_law_are_rows" = true) (k0 : PySem.W.keepIn K (.ref f0) = true)
    {f1 : Addr} {od1 an1 : Option Addr} {sl1 : Array (Option Value)} {oc1 kV1 dc1 pm1 cd1 ct1 : Value}
    (a1 : PySem.W.nsIn K mainGlobals "_law_mixed" = some (some (.ref f1))) (l1 : K.lookup f1 = some ⟨oc1, od1, .func (PySem.W.fnOf "_law_mixed" "_law_mixed" (defArgs s__law_mixed) (defBody s__law_mixed) (defScope s__law_mixed) .none kV1 dc1 pm1 an1 cd1 ct1), sl1⟩) (c1 : PySem.W.codeIn K cd1 "_law_mixed" = true) (k1 : PySem.W.keepIn K (.ref f1) = true)
    {f2 : Addr} {od2 an2 : Option Addr} {sl2 : Array (Option Value)} {oc2 kV2 dc2 pm2 cd2 ct2 : Value}
    (a2 : PySem.W.nsIn K mainGlobals "_law_next" = some (some (.ref f2))) (l2 : K.lookup f2 = some ⟨oc2, od2, .func (PySem.W.fnOf "_law_next" "_law_next" (defArgs s__law_next) (defBody s__law_next) (defScope s__law_next) .none kV2 dc2 pm2 an2 cd2 ct2), sl2⟩) (c2 : PySem.W.codeIn K cd2 "_law_next" = true) (k2 : PySem.W.keepIn K (.ref f2) = true)
    {f3 : Addr} {od3 an3 : Option Addr} {sl3 : Array (Option Value)} {oc3 kV3 dc3 pm3 cd3 ct3 : Value}
    (a3 : PySem.W.nsIn K mainGlobals "_law_bytes" = some (some (.ref f3))) (l3 : K.lookup f3 = some ⟨oc3, od3, .func (PySem.W.fnOf "_law_bytes" "_law_bytes" (defArgs s__law_bytes) (defBody s__law_bytes) (defScope s__law_bytes) .none kV3 dc3 pm3 an3 cd3 ct3), sl3⟩) (c3 : PySem.W.codeIn K cd3 "_law_bytes" = true) (k3 : PySem.W.keepIn K (.ref f3) = true)
    {f4 : Addr} {od4 an4 : Option Addr} {sl4 : Array (Option Value)} {oc4 kV4 dc4 pm4 cd4 ct4 : Value}
    (a4 : PySem.W.nsIn K mainGlobals "_law_cell" = some (some (.ref f4))) (l4 : K.lookup f4 = some ⟨oc4, od4, .func (PySem.W.fnOf "_law_cell" "_law_cell" (defArgs s__law_cell) (defBody s__law_cell) (defScope s__law_cell) .none kV4 dc4 pm4 an4 cd4 ct4), sl4⟩) (c4 : PySem.W.codeIn K cd4 "_law_cell" = true) (k4 : PySem.W.keepIn K (.ref f4) = true)
    {f5 : Addr} {od5 an5 : Option Addr} {sl5 : Array (Option Value)} {oc5 kV5 dc5 pm5 cd5 ct5 : Value}
    (a5 : PySem.W.nsIn K mainGlobals "_law_bits" = some (some (.ref f5))) (l5 : K.lookup f5 = some ⟨oc5, od5, .func (PySem.W.fnOf "_law_bits" "_law_bits" (defArgs s__law_bits) (defBody s__law_bits) (defScope s__law_bits) .none kV5 dc5 pm5 an5 cd5 ct5), sl5⟩) (c5 : PySem.W.codeIn K cd5 "_law_bits" = true) (k5 : PySem.W.keepIn K (.ref f5) = true)
    {f6 : Addr} {od6 an6 : Option Addr} {sl6 : Array (Option Value)} {oc6 kV6 dc6 pm6 cd6 ct6 : Value}
    (a6 : PySem.W.nsIn K mainGlobals "_law_number" = some (some (.ref f6))) (l6 : K.lookup f6 = some ⟨oc6, od6, .func (PySem.W.fnOf "_law_number" "_law_number" (defArgs s__law_number) (defBody s__law_number) (defScope s__law_number) .none kV6 dc6 pm6 an6 cd6 ct6), sl6⟩) (c6 : PySem.W.codeIn K cd6 "_law_number" = true) (k6 : PySem.W.keepIn K (.ref f6) = true)
    {f7 : Addr} {od7 an7 : Option Addr} {sl7 : Array (Option Value)} {oc7 kV7 dc7 pm7 cd7 ct7 : Value}
    (a7 : PySem.W.nsIn K mainGlobals "_law_sixty" = some (some (.ref f7))) (l7 : K.lookup f7 = some ⟨oc7, od7, .func (PySem.W.fnOf "_law_sixty" "_law_sixty" (defArgs s__law_sixty) (defBody s__law_sixty) (defScope s__law_sixty) .none kV7 dc7 pm7 an7 cd7 ct7), sl7⟩) (c7 : PySem.W.codeIn K cd7 "_law_sixty" = true) (k7 : PySem.W.keepIn K (.ref f7) = true)
    {f8 : Addr} {od8 an8 : Option Addr} {sl8 : Array (Option Value)} {oc8 kV8 dc8 pm8 cd8 ct8 : Value}
    (a8 : PySem.W.nsIn K mainGlobals "_law_in_sixty" = some (some (.ref f8))) (l8 : K.lookup f8 = some ⟨oc8, od8, .func (PySem.W.fnOf "_law_in_sixty" "_law_in_sixty" (defArgs s__law_in_sixty) (defBody s__law_in_sixty) (defScope s__law_in_sixty) .none kV8 dc8 pm8 an8 cd8 ct8), sl8⟩) (c8 : PySem.W.codeIn K cd8 "_law_in_sixty" = true) (k8 : PySem.W.keepIn K (.ref f8) = true)
    {f9 : Addr} {od9 an9 : Option Addr} {sl9 : Array (Option Value)} {oc9 kV9 dc9 pm9 cd9 ct9 : Value}
    (a9 : PySem.W.nsIn K mainGlobals "four_of" = some (some (.ref f9))) (l9 : K.lookup f9 = some ⟨oc9, od9, .func (PySem.W.fnOf "four_of" "four_of" (defArgs s_four_of) (defBody s_four_of) (defScope s_four_of) .none kV9 dc9 pm9 an9 cd9 ct9), sl9⟩) (c9 : PySem.W.codeIn K cd9 "four_of" = true) (k9 : PySem.W.keepIn K (.ref f9) = true)
    {f10 : Addr} {od10 an10 : Option Addr} {sl10 : Array (Option Value)} {oc10 kV10 dc10 pm10 cd10 ct10 : Value}
    (a10 : PySem.W.nsIn K mainGlobals "is_whole" = some (some (.ref f10))) (l10 : K.lookup f10 = some ⟨oc10, od10, .func (PySem.W.fnOf "is_whole" "is_whole" (defArgs s_is_whole) (defBody s_is_whole) (defScope s_is_whole) .none kV10 dc10 pm10 an10 cd10 ct10), sl10⟩) (c10 : PySem.W.codeIn K cd10 "is_whole" = true) (k10 : PySem.W.keepIn K (.ref f10) = true)
    {f11 : Addr} {od11 an11 : Option Addr} {sl11 : Array (Option Value)} {oc11 kV11 dc11 pm11 cd11 ct11 : Value}
    (a11 : PySem.W.nsIn K mainGlobals "is_byte" = some (some (.ref f11))) (l11 : K.lookup f11 = some ⟨oc11, od11, .func (PySem.W.fnOf "is_byte" "is_byte" (defArgs s_is_byte) (defBody s_is_byte) (defScope s_is_byte) .none kV11 dc11 pm11 an11 cd11 ct11), sl11⟩) (c11 : PySem.W.codeIn K cd11 "is_byte" = true) (k11 : PySem.W.keepIn K (.ref f11) = true)
    {f12 : Addr} {od12 an12 : Option Addr} {sl12 : Array (Option Value)} {oc12 kV12 dc12 pm12 cd12 ct12 : Value}
    (a12 : PySem.W.nsIn K mainGlobals "need_bytes" = some (some (.ref f12))) (l12 : K.lookup f12 = some ⟨oc12, od12, .func (PySem.W.fnOf "need_bytes" "need_bytes" (defArgs s_need_bytes) (defBody s_need_bytes) (defScope s_need_bytes) .none kV12 dc12 pm12 an12 cd12 ct12), sl12⟩) (c12 : PySem.W.codeIn K cd12 "need_bytes" = true) (k12 : PySem.W.keepIn K (.ref f12) = true)
    {f13 : Addr} {od13 an13 : Option Addr} {sl13 : Array (Option Value)} {oc13 kV13 dc13 pm13 cd13 ct13 : Value}
    (a13 : PySem.W.nsIn K mainGlobals "sixty_of" = some (some (.ref f13))) (l13 : K.lookup f13 = some ⟨oc13, od13, .func (PySem.W.fnOf "sixty_of" "sixty_of" (defArgs s_sixty_of) (defBody s_sixty_of) (defScope s_sixty_of) .none kV13 dc13 pm13 an13 cd13 ct13), sl13⟩) (c13 : PySem.W.codeIn K cd13 "sixty_of" = true) (k13 : PySem.W.keepIn K (.ref f13) = true)
    {f14 : Addr} {od14 an14 : Option Addr} {sl14 : Array (Option Value)} {oc14 kV14 dc14 pm14 cd14 ct14 : Value}
    (a14 : PySem.W.nsIn K mainGlobals "law" = some (some (.ref f14))) (l14 : K.lookup f14 = some ⟨oc14, od14, .func (PySem.W.fnOf "law" "law" (defArgs s_law) (defBody s_law) (defScope s_law) .none kV14 dc14 pm14 an14 cd14 ct14), sl14⟩) (c14 : PySem.W.codeIn K cd14 "law" = true) (k14 : PySem.W.keepIn K (.ref f14) = true)
    (z_all : PySem.W.nsIn K mainGlobals "all" = some none)
    (z_bool : PySem.W.nsIn K mainGlobals "bool" = some none)
    (z_enumerate : PySem.W.nsIn K mainGlobals "enumerate" = some none)
    (z_int : PySem.W.nsIn K mainGlobals "int" = some none)
    (z_isinstance : PySem.W.nsIn K mainGlobals "isinstance" = some none)
    (z_len : PySem.W.nsIn K mainGlobals "len" = some none)
    (z_list : PySem.W.nsIn K mainGlobals "list" = some none)
    (z_range : PySem.W.nsIn K mainGlobals "range" = some none)
    (z_str : PySem.W.nsIn K mainGlobals "str" = some none)
    {t_MOST_ROW : Tok} (y_MOST_ROW : PySem.W.nsIn K mainGlobals "MOST_ROW" = some (some (.int 60 t_MOST_ROW)))
    (y_SIXTY : ∃ t, mg "SIXTY" = some (.str (tS t0_ABCDEFGHIJKL) t)) :
    ∃ fd : FuncData, (∀ (s : Shared) (v : Value), BindsTo s fd ⟨[v], []⟩ [("_law_script", v)]) ∧ ∀ base : Heap, K.In base → base.Ns mainGlobals mg → FnOk l.prog w K mg base (L2.CX l.prog w) 5 fa fd ["_law_script"] (spD (fun _ => 0) K 1 d_law) := by
  have e := hfa.symm.trans (PySem.W.mg_of X G a14)
  cases e
  exact ⟨PySem.W.fnOf "law" "law" (defArgs s_law) (defBody s_law) (defScope s_law) .none kV14 dc14 pm14 an14 cd14 ct14, fun s v => .of_eq rfl, fun base _ _ => ok_law (cl := fun _ => 0) (mkFx X G a0 l0 c0 k0 a1 l1 c1 k1 a2 l2 c2 k2 a3 l3 c3 k3 a4 l4 c4 k4 a5 l5 c5 k5 a6 l6 c6 k6 a7 l7 c7 k7 a8 l8 c8 k8 a9 l9 c9 k9 a10 l10 c10 k10 a11 l11 c11 k11 a12 l12 c12 k12 a13 l13 c13 k13 a14 l14 c14 k14 z_all z_bool z_enumerate z_int z_isinstance z_len z_list z_range z_str y_MOST_ROW y_SIXTY)⟩
end Lk05


open PySem PySem.W PyProof.Rows
set_option maxHeartbeats 0 in
theorem PySem.Challenge.cw_letterhouse_k05_sixty_told_holds : PySem.Challenge.rw_letterhouse_k05_sixty_told.Holds := by
  w_on; o_law; k_head; (case hw => w_witness2)
  k_fill
  refine G.walk_X (l := PySem.Challenge.rw_letterhouse_k05_sixty_told) (n := 63) (k := 5) (x := "_law_script") (CX := fun w => L2.CX PySem.Challenge.rw_letterhouse_k05_sixty_told.prog w) (sp := fun w => G.spD (fun _ => 0) _ 1 Lk05.d_law) rfl (by decide) rfl ⟨rfl, by decide, by decide⟩ (fun w h Y => PySem.W.kIn_of Y) ?F (fun _ _ a ns hl _ hS => G.law_sp hS (Lk05.law_true ns hl)) (fun _ _ _ _ _ h => G.law_cx h)
  case F =>
    intro w mg fa h KX GG XX hmg
    refine' Lk05.end_mk KX GG hmg ?a0 ?l0 ?c0 ?k0 ?a1 ?l1 ?c1 ?k1 ?a2 ?l2 ?c2 ?k2 ?a3 ?l3 ?c3 ?k3 ?a4 ?l4 ?c4 ?k4 ?a5 ?l5 ?c5 ?k5 ?a6 ?l6 ?c6 ?k6 ?a7 ?l7 ?c7 ?k7 ?a8 ?l8 ?c8 ?k8 ?a9 ?l9 ?c9 ?k9 ?a10 ?l10 ?c10 ?k10 ?a11 ?l11 ?c11 ?k11 ?a12 ?l12 ?c12 ?k12 ?a13 ?l13 ?c13 ?k13 ?a14 ?l14 ?c14 ?k14 ?z_all ?z_bool ?z_enumerate ?z_int ?z_isinstance ?z_len ?z_list ?z_range ?z_str ?y_MOST_ROW (_root_.G.loose_str XX (by repeat (first | exact List.Mem.head _ | apply List.Mem.tail)))
    (case a0 => k_is); (case l0 => k_is); (case c0 => k_is); (case k0 => k_is); (case a1 => k_is); (case l1 => k_is); (case c1 => k_is); (case k1 => k_is); (case a2 => k_is); (case l2 => k_is); (case c2 => k_is); (case k2 => k_is); (case a3 => k_is); (case l3 => k_is); (case c3 => k_is); (case k3 => k_is); (case a4 => k_is); (case l4 => k_is); (case c4 => k_is); (case k4 => k_is); (case a5 => k_is); (case l5 => k_is); (case c5 => k_is); (case k5 => k_is); (case a6 => k_is); (case l6 => k_is); (case c6 => k_is); (case k6 => k_is); (case a7 => k_is); (case l7 => k_is); (case c7 => k_is); (case k7 => k_is); (case a8 => k_is); (case l8 => k_is); (case c8 => k_is); (case k8 => k_is); (case a9 => k_is); (case l9 => k_is); (case c9 => k_is); (case k9 => k_is); (case a10 => k_is); (case l10 => k_is); (case c10 => k_is); (case k10 => k_is); (case a11 => k_is); (case l11 => k_is); (case c11 => k_is); (case k11 => k_is); (case a12 => k_is); (case l12 => k_is); (case c12 => k_is); (case k12 => k_is); (case a13 => k_is); (case l13 => k_is); (case c13 => k_is); (case k13 => k_is); (case a14 => k_is); (case l14 => k_is); (case c14 => k_is); (case k14 => k_is); (case z_all => k_is); (case z_bool => k_is); (case z_enumerate => k_is); (case z_int => k_is); (case z_isinstance => k_is); (case z_len => k_is); (case z_list => k_is); (case z_range => k_is); (case z_str => k_is); (case y_MOST_ROW => k_is)
