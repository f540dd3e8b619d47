import PyProof.Rows.All
import Wide.All
import OpenK.AllK
import Wide.FinOn
import HandS.ForMost
import HandS.ForExc
import HandS.Walk
import HandS.IsInst
import HandS.StrMore
import HandS.SortInts
import HandS.Style
import KE.OsRunLaw
import PyProof.Rows.SortShellAny
import HandS.ExcIs
import HandS.ExcField
import HandS.ExcInit
import HandS.ExcValue
import HandS.ClsMeth
import HandS.FStr
import KE.GoesMore
import HandS.Replace
import HandS.Dict
import HandS.TryOnly
import HandS.Text
import KE.GoesEnum
import KE.KDictZip
import PyProof.ListNew
import PyProof.StrLawsReplace
import HandS.ReplaceLit
import HandS.Defaults
import HandS.Codes
import PyProof.TableCode
import HandS.Set
import HandS.SetFor
import HandS.Strs
import HandS.More
import HandS.Conv
import KE.DataMinMax
import KE.KEqDict
import KE.KUnpack
import HandS.SuiteRaise
import HandS.ExcInitHot
import HandS.TryElse
import KE.KAsSuite
import HandS.RaiseFrom
import KE.KRevSl
import PyProof.EnumMake
import PyProof.Rows.CallKwBuiltin
import HandS.SortKw
import KE.GoesRaise
import PySem.Challenge.RW_letterhouse_k21_borders_round_pieces
set_option Elab.async false
set_option linter.all false
set_option maxRecDepth 100000
def PySem.W.Fast.tw355102864284592224 : Unit := ()
def PySem.W.Fast.tw6926784693378494466 : Unit := ()
def PySem.W.Fast.tw2241065281246389798 : Unit := ()
def PySem.W.Fast.tw17150372215647061159 : Unit := ()
def PySem.W.Fast.tw6490020946463858343 : Unit := ()
def PySem.W.Fast.tw17097035525046492296 : Unit := ()
def PySem.W.Fast.tw6602762320568281929 : Unit := ()
def PySem.W.Fast.tw15140153203975526442 : Unit := ()
def PySem.W.Fast.tw3872499289699421867 : Unit := ()
def PySem.W.Fast.tw14536455487557585069 : Unit := ()
def PySem.W.Fast.tw3014734040808989997 : Unit := ()
def PySem.W.Fast.tw3969974569810066958 : Unit := ()
def PySem.W.Fast.tw9709638892968195918 : Unit := ()
def PySem.W.Fast.tw5041624231669951569 : Unit := ()
def PySem.W.Fast.tw17392307960667720375 : Unit := ()
def PySem.W.Fast.tw7620346055024193752 : Unit := ()
def PySem.W.Fast.tw2480369595618287770 : Unit := ()
def PySem.W.Fast.tw6030521771608964986 : Unit := ()
def PySem.W.Fast.tw12314599334759872860 : Unit := ()
def PySem.W.Fast.tw1988085854666622492 : Unit := ()
namespace Z
open PySem PySem.W PyProof.Rows
def lone (p : Program) (n : Str) : Program := { p with main := { p.main with body := p.main.body.filter (fun st => match st with | .FunctionDef m .. => m == n | _ => false), scope := { p.main.scope with names := [] } } }
def allN (p : Program) : List Str := p.main.scope.names.map fun x => x.1
theorem PySem.W.holds_open {r : OpenRow} {q : Program} {loose : List Str} {Xt : Shared → Bool} {XP : (Str → Option Value) → Heap → Prop} {α : Type} {Yf : Shared → α} {Ya : World → α} {YP : World → Heap → Prop} {d : DefRec} {kwd : List (Str × Expr)} {N : Nat} (left : LeftO r.prog (lone r.prog r.name) (allN r.prog) Xt Yf Ya N) (hY : ∀ w s, Yf s = Ya w → YP w s.heap) (hYk : ∀ w h h', YP w h → (∀ b o, h.get? b = some o → h'.get? b = some o) → YP w h') (hX : ∀ s, Xt s = true → XP (s.heap.nsMap mainGlobals) s.heap) (hXk : ∀ mg h h', XP mg h → (∀ b o, h.get? b = some o → h'.get? b = some o) → XP mg h') (hdef : defOf (lone r.prog r.name) r.name = some (d, kwd)) (hp : r.prog.theDef r.name = some (d.params, d.body, d.scope)) (hk : kwWritten? d.params.kwonlyargs d.params.kw_defaults = some kwd) (hRf : ∀ s, Xt s = true → RecFacts r.records s.heap) (hwr : (!r.writes || r.records.isEmpty) = true) (k1 : r.wellSaid = true) (ok : (chainsOk (lone r.prog r.name) && opensWell r.prog && (frees r.toRowW && r.within.isEmpty)) = true) (hb : r.prog.bare) (hw : r.toRowW.promised) (call : WalkO (lone r.prog r.name) (allN r.prog) XP YP r.toRowW d kwd fun f vs => PySem.call f vs) : r.Holds := _root_.PySem.W.holds_open left hY hYk hX hXk hdef hp hk hRf hwr k1 ok hb hw call
set_option maxHeartbeats 0 in
open_top hd_k21 for PySem.Challenge.rw_letterhouse_k21_borders_round_pieces
end Z
namespace G
abbrev Tx := List Nat
def LINE : Nat := 16777216
inductive D where
  | non
  | bl (b : Bool)
  | int (i : Int)
  | str (s : Tx)
  | lst (o : Bool) (xs : List D)
  | tup (o : Bool) (xs : List D)
  | dic (o : Bool) (ks : List (Sum Int Tx)) (vs : List D)
  | dlk (ks : List (Sum Int Tx)) (vs : List D)
  | ins (o : Bool) (c : String) (fs : List String) (vs : List D)
  | scr (ns : List Int)
instance : Inhabited D := ⟨.non⟩
mutual
def D.sh : D → Bool
  | .lst o xs => !o && shs xs
  | .tup o xs => !o && shs xs
  | .dic o _ vs => !o && shs vs
  | .dlk _ vs => shs vs
  | .ins o _ _ vs => !o && shs vs
  | .scr _ => true
  | .non => true
  | .bl _ => true
  | .int _ => true
  | .str _ => true
def shs : List D → Bool
  | [] => true
  | x :: xs => x.sh && shs xs
end
mutual
def D.ow : D → Bool
  | .lst o xs => o && ows xs
  | .tup o xs => o && ows xs
  | .dic o _ vs => o && ows vs
  | .dlk _ _ => false
  | .ins o _ _ vs => o && ows vs
  | .scr _ => false
  | .non => true
  | .bl _ => true
  | .int _ => true
  | .str _ => true
def ows : List D → Bool
  | [] => true
  | x :: xs => x.ow && ows xs
end
mutual
def D.frz : D → D
  | .lst _ xs => .lst false (frzs xs)
  | .tup _ xs => .tup false (frzs xs)
  | .dic _ ks vs => .dic false ks (frzs vs)
  | .dlk ks vs => .dlk ks (frzs vs)
  | .ins _ c fs vs => .ins false c fs (frzs vs)
  | .scr ns => .scr ns
  | .non => .non
  | .bl b => .bl b
  | .int i => .int i
  | .str s => .str s
def frzs : List D → List D
  | [] => []
  | x :: xs => x.frz :: frzs xs
end
mutual
def D.eqv : D → D → Bool
  | .non, .non => true
  | .bl a, .bl b => a == b
  | .bl a, .int j => (if a then 1 else 0) == j
  | .int i, .bl b => i == (if b then 1 else 0)
  | .int i, .int j => i == j
  | .str x, .str y => x == y
  | .lst _ xs, .lst _ ys => eqvs xs ys
  | .tup _ xs, .tup _ ys => eqvs xs ys
  | _, _ => false
def eqvs : List D → List D → Bool
  | [], [] => true
  | x :: xs, y :: ys => x.eqv y && eqvs xs ys
  | _, _ => false
end
mutual
def D.pl : D → Bool
  | .lst _ xs => pls xs
  | .tup _ xs => pls xs
  | .dic _ _ _ => false
  | .dlk _ _ => false
  | .ins _ _ _ _ => false
  | .scr _ => false
  | .non => true
  | .bl _ => true
  | .int _ => true
  | .str _ => true
def pls : List D → Bool
  | [] => true
  | x :: xs => x.pl && pls xs
end
mutual
def D.dep : D → Nat
  | .lst _ xs => deps xs + 1
  | .tup _ xs => deps xs + 1
  | .dic _ _ vs => deps vs + 1
  | .dlk _ vs => deps vs + 1
  | .ins _ _ _ vs => deps vs + 1
  | .scr _ => 1
  | .non => 0
  | .bl _ => 0
  | .int _ => 0
  | .str _ => 0
def deps : List D → Nat
  | [] => 0
  | x :: xs => max x.dep (deps xs)
end
def D.fl : D → Bool
  | .non => true
  | .bl _ => true
  | .int _ => true
  | .str _ => true
  | _ => false
inductive Res (α : Type) where
  | no
  | ok (a : α)
  | ex (c : String) (fs : List D)
def Res.bind {α β : Type} : Res α → (α → Res β) → Res β
  | .no, _ => .no
  | .ok a, f => f a
  | .ex c fs, _ => .ex c fs
def Res.of {α : Type} : Option α → Res α
  | none => .no
  | some a => .ok a
def Res.nox {α : Type} : Res α → Res α
  | .ex _ _ => .no
  | r => r
abbrev Env := List (Option D)
abbrev E := Env → Res D
def get (ρ : Env) (i : Nat) : Res D := match ρ[i]? with
  | some (some d) => .ok d
  | _ => .no
def put (ρ : Env) (i : Nat) (d : D) : Env := ρ.set i (some d)
def eC (d : D) : E := fun _ => .ok d
def eO (i : Nat) : E := fun ρ => get ρ i
def eV (i : Nat) : E := fun ρ => (get ρ i).bind fun d => if d.sh then .ok d else .no
def eFrz (e : E) : E := fun ρ => (e ρ).bind fun d => .ok d.frz
def e1 (f : D → Option D) (a : E) : E := fun ρ => (a ρ).bind fun x => Res.of (f x)
def e2 (f : D → D → Option D) (a b : E) : E := fun ρ => (a ρ).bind fun x => (b ρ).bind fun y => Res.of (f x y)
def e3 (f : D → D → D → Option D) (a b c : E) : E := fun ρ => (a ρ).bind fun x => (b ρ).bind fun y => (c ρ).bind fun z => Res.of (f x y z)
def D.isS : D → Bool
  | .str _ => true
  | _ => false
def e2s (f : D → D → Option D) (a b : E) : E := fun ρ => (a ρ).bind fun x => if x.isS then (b ρ).bind fun y => Res.of (f x y) else .no
def eAnd (a b : E) : E := fun ρ => (a ρ).bind fun x => match x with
  | .bl true => b ρ
  | .bl false => .ok (.bl false)
  | _ => .no
def eOr (a b : E) : E := fun ρ => (a ρ).bind fun x => match x with
  | .bl true => .ok (.bl true)
  | .bl false => b ρ
  | _ => .no
def fNot : D → Option D
  | .bl b => some (.bl (!b))
  | _ => none
def eNot (a : E) : E := e1 fNot a
def eIf (c a b : E) : E := fun ρ => (c ρ).bind fun x => match x with
  | .bl true => a ρ
  | .bl false => b ρ
  | _ => .no
def eChain (f g : D → D → Option D) (a b c : E) : E := fun ρ => (a ρ).bind fun x => (b ρ).bind fun y => (Res.of (f x y)).bind fun k => match k with
  | .bl true => (c ρ).bind fun z => Res.of (g y z)
  | .bl false => .ok (.bl false)
  | _ => .no
def eArgs : List E → Env → Res (List D)
  | [], _ => .ok []
  | e :: es, ρ => (e ρ).bind fun d => (eArgs es ρ).bind fun ds => .ok (d :: ds)
def eL (es : List E) : E := fun ρ => (eArgs es ρ).bind fun ds => .ok (.lst true ds)
def eT (es : List E) : E := fun ρ => (eArgs es ρ).bind fun ds => .ok (.tup true ds)
def eD0 : E := fun _ => .ok (.dic true [] [])
def eDc (ks : List (Sum Int Tx)) (ds : List D) : E := fun _ => .ok (.dic true ks ds)
def eCall0 (f : List D → Res D) : E := fun _ => (f []).nox
def eCall (f : List D → Res D) (es : List E) : E := fun ρ => (eArgs es ρ).bind fun ds => (f (frzs ds)).bind fun r => if r.ow || shs ds then .ok r else .no
abbrev I := Env → Res (List D)
def iLst (e : E) : I := fun ρ => (e ρ).bind fun d => match d with
  | .lst _ xs => .ok xs
  | .scr ns => .ok (ns.map .int)
  | _ => .no
def iTup (e : E) : I := fun ρ => (e ρ).bind fun d => match d with
  | .tup _ xs => .ok xs
  | _ => .no
def iLstS (e : E) : I := fun ρ => (e ρ).bind fun d => match d with
  | .lst false xs => .ok xs
  | .scr ns => .ok (ns.map .int)
  | _ => .no
def iTupS (e : E) : I := fun ρ => (e ρ).bind fun d => match d with
  | .tup false xs => .ok xs
  | _ => .no
def iStr (e : E) : I := fun ρ => (e ρ).bind fun d => match d with
  | .str s => .ok (s.map fun c => .str [c])
  | _ => .no
def rangeD (lo : Int) (n : Nat) : List D := (List.range n).map fun (k : Nat) => .int (lo + (k : Int))
def fits62 (i : Int) : Bool := decide (-4611686018427387904 ≤ i) && decide (i < 4611686018427387904)
def iRange1 (e : E) : I := fun ρ => (e ρ).bind fun d => match d with
  | .int n => if fits62 n then .ok (rangeD 0 n.toNat) else .no
  | _ => .no
def iRange2 (a b : E) : I := fun ρ => (a ρ).bind fun x => (b ρ).bind fun y => match x, y with
  | .int i, .int j => if fits62 i && fits62 j then .ok (rangeD i (j - i).toNat) else .no
  | _, _ => .no
def rangeC (lo c : Int) (n : Nat) : List D := (List.range n).map fun (k : Nat) => .int (lo + (k : Int) * c)
def turnsC (i j c : Int) : Nat := ((j - i + c - 1) / c).toNat
def iRange3 (a b : E) (c : Int) : I := fun ρ => (a ρ).bind fun x => (b ρ).bind fun y => match x, y with
  | .int i, .int j => if fits62 i && fits62 j && decide (0 < c) && decide (c < 1073741824) then .ok (rangeC i c (turnsC i j c)) else .no
  | _, _ => .no
def enumFrom : Int → List D → List D
  | _, [] => []
  | k, x :: xs => .tup true [.int k, x] :: enumFrom (k + 1) xs
def iEnum (i : I) : I := fun ρ => (i ρ).bind fun xs => .ok (enumFrom 0 xs)
def eYes : E := fun _ => .ok (.bl true)
abbrev B := D → Env → Res Env
def bN (i : Nat) : B := fun d ρ => if d.sh then .ok (put ρ i d) else .no
def bNs : List Nat → List D → Env → Res Env
  | [], [], ρ => .ok ρ
  | i :: is, d :: ds, ρ => if d.sh then bNs is ds (put ρ i d) else .no
  | _, _, _ => .no
def bT (is : List Nat) : B := fun d ρ => match d with
  | .tup _ ds => bNs is ds ρ
  | _ => .no
def cN (i : Nat) : B := fun d ρ => .ok (put ρ i d)
def cNs : List Nat → List D → Env → Res Env
  | [], [], ρ => .ok ρ
  | i :: is, d :: ds, ρ => cNs is ds (put ρ i d)
  | _, _, _ => .no
def cT (is : List Nat) : B := fun d ρ => match d with
  | .tup _ ds => cNs is ds ρ
  | _ => .no
def compL (b : B) (c e : E) (ρ : Env) : List D → Res (List D)
  | [] => .ok []
  | x :: xs => (b x ρ).nox.bind fun ρ1 => (c ρ1).nox.bind fun k => match k with
    | .bl true => (e ρ1).nox.bind fun y => (compL b c e ρ xs).bind fun ys => .ok (y :: ys)
    | .bl false => compL b c e ρ xs
    | _ => .no
def clr : List Nat → Env → Env
  | [], ρ => ρ
  | v :: vs, ρ => (clr vs ρ).set v none
def eComp (vs : List Nat) (it : I) (b : B) (c e : E) : E := fun ρ => (it ρ).bind fun xs => (compL b c e (clr vs ρ) xs).bind fun ys => if ys.length ≤ LINE then .ok (.lst true ys) else .no
inductive Out where
  | no
  | nx (ρ : Env)
  | rt (d : D) (ρ : Env)
  | bk (ρ : Env)
  | ct (ρ : Env)
  | xc (c : String) (fs : List D) (ρ : Env)
abbrev Sd := Env → Out
def sE {α : Type} (r : Res α) (ρ : Env) (k : α → Out) : Out := match r with
  | .no => .no
  | .ok a => k a
  | .ex c fs => .xc c fs ρ
def sPass : Sd := fun ρ => .nx ρ
def sNo : Sd := fun _ => .no
def sBreak : Sd := fun ρ => .bk ρ
def sCont : Sd := fun ρ => .ct ρ
def sSet (i : Nat) (e : E) : Sd := fun ρ => sE (e ρ) ρ fun d => .nx (put ρ i d)
def sBind (b : B) (e : E) : Sd := fun ρ => sE (e ρ) ρ fun d => sE (b d ρ).nox ρ fun ρ1 => .nx ρ1
def Out.then (o : Out) (b : Sd) : Out := match o with
  | .nx ρ => b ρ
  | o => o
def sSeq (a b : Sd) : Sd := fun ρ => (a ρ).then b
def sIf (c : E) (a b : Sd) : Sd := fun ρ => sE (c ρ) ρ fun x => match x with
  | .bl true => a ρ
  | .bl false => b ρ
  | _ => .no
def sRet (e : E) : Sd := fun ρ => sE (e ρ) ρ fun d => .rt d ρ
def sRetN : Sd := fun ρ => .rt .non ρ
def sRetM (i : Nat) : Sd := fun ρ => sE (get ρ i) ρ fun d => .rt d (ρ.set i none)
def sDrop (e : E) : Sd := fun ρ => sE (e ρ) ρ fun _ => .nx ρ
def sFrz (i : Nat) (s : Sd) : Sd := fun ρ => sE (get ρ i) ρ fun d => s (put ρ i d.frz)
def sApp (i : Nat) (e : E) : Sd := fun ρ => sE (get ρ i) ρ fun l => match l with
  | .lst true xs => sE (e ρ) ρ fun d => if xs.length < LINE then .nx (put ρ i (.lst true (xs ++ [d]))) else .no
  | _ => .no
def sExt (i : Nat) (e : E) : Sd := fun ρ => sE (get ρ i) ρ fun l => match l with
  | .lst true xs => sE (e ρ) ρ fun d => match d with
    | .lst _ ys => if xs.length + ys.length ≤ LINE then .nx (put ρ i (.lst true (xs ++ ys))) else .no
    | _ => .no
  | _ => .no
def Out.loop (o : Out) (k : Env → Out) : Out := match o with
  | .nx ρ => k ρ
  | .ct ρ => k ρ
  | .bk ρ => .nx ρ
  | o => o
def forL (b : B) (body : Sd) : List D → Env → Out
  | [], ρ => .nx ρ
  | x :: xs, ρ => (sE (b x ρ).nox ρ body).loop (forL b body xs)
def sFor (it : I) (b : B) (body : Sd) : Sd := fun ρ => sE (it ρ) ρ fun xs => forL b body xs ρ
def whL (c : E) (body : Sd) : Nat → Env → Out
  | 0, _ => .no
  | k + 1, ρ => sE (c ρ) ρ fun x => match x with
    | .bl true => (body ρ).loop (whL c body k)
    | .bl false => .nx ρ
    | _ => .no
def sWhile (fuel : Nat) (c : E) (body : Sd) : Sd := whL c body fuel
def endF : Out → Res D
  | .rt d _ => .ok d
  | .nx _ => .ok .non
  | .xc c fs _ => .ex c fs
  | _ => .no
def runF (n : Nat) (body : Sd) (ds : List D) : Res D := endF (body (ds.map some ++ List.replicate (n - ds.length) none))
def fits64 (i : Int) : Bool := decide (-(2 ^ 64) < i) && decide (i < 2 ^ 64)
def fAdd : D → D → Option D
  | .int i, .int j => some (.int (i + j))
  | .str a, .str b => if a.length + b.length ≤ LINE then some (.str (a ++ b)) else none
  | .lst _ a, .lst _ b => if decide (a.length + b.length ≤ LINE) && shs a && shs b then some (.lst true (a ++ b)) else none
  | _, _ => none
def fSub : D → D → Option D
  | .int i, .int j => some (.int (i - j))
  | _, _ => none
def fMul : D → D → Option D
  | .int i, .int j => if fits64 i || fits64 j then some (.int (i * j)) else none
  | .str s, .int k => if decide (s.length * k.toNat ≤ LINE) && fits62 k then some (.str (List.replicate k.toNat s).flatten) else none
  | .lst _ xs, .int k => if decide (xs.length * k.toNat ≤ LINE) && fits62 k && shs xs then some (.lst true (List.replicate k.toNat xs).flatten) else none
  | _, _ => none
def fDiv : D → D → Option D
  | .int i, .int j => if decide (0 < j) && decide (j < 1073741824) then some (.int (i / j)) else none
  | _, _ => none
def fMod : D → D → Option D
  | .int i, .int j => if decide (0 < j) then some (.int (i % j)) else none
  | _, _ => none
def fNeg : D → Option D
  | .int i => some (.int (-i))
  | _ => none
def fShl : D → D → Option D
  | .int i, .int j => if decide (0 ≤ j) && decide (j ≤ 1000000) && decide (i.natAbs < 2 ^ 64) then some (.int (i * 2 ^ j.toNat)) else none
  | _, _ => none
def fShr : D → D → Option D
  | .int i, .int j => if decide (0 ≤ j) then some (.int (i / 2 ^ j.toNat)) else none
  | _, _ => none
def fBand : D → D → Option D
  | .int i, .int j => if decide (0 ≤ i) && decide (0 ≤ j) then some (.int ((i.toNat &&& j.toNat : Nat) : Int)) else none
  | _, _ => none
def fBor : D → D → Option D
  | .int i, .int j => if decide (0 ≤ i) && decide (0 ≤ j) then some (.int ((i.toNat ||| j.toNat : Nat) : Int)) else none
  | _, _ => none
def fEq (a b : D) : Option D := if a.pl && b.pl && decide (a.dep ≤ 64) && decide (b.dep ≤ 64) then some (.bl (a.eqv b)) else none
def fNe (a b : D) : Option D := if a.pl && b.pl && decide (a.dep ≤ 64) && decide (b.dep ≤ 64) then some (.bl (!a.eqv b)) else none
def fLt : D → D → Option D
  | .int i, .int j => some (.bl (decide (i < j)))
  | _, _ => none
def fLe : D → D → Option D
  | .int i, .int j => some (.bl (decide (i ≤ j)))
  | _, _ => none
def fGt : D → D → Option D
  | .int i, .int j => some (.bl (decide (j < i)))
  | _, _ => none
def fGe : D → D → Option D
  | .int i, .int j => some (.bl (decide (j ≤ i)))
  | _, _ => none
def preT (S l : Tx) : Bool := l.take S.length == S
def subT (S : Tx) : Tx → Bool
  | [] => S == []
  | c :: r => preT S (c :: r) || subT S r
def memD (x : D) : List D → Bool
  | [] => false
  | y :: ys => y.eqv x || memD x ys
def allFl : List D → Bool
  | [] => true
  | x :: xs => x.fl && allFl xs
def fIn : D → D → Option D
  | .str a, .str b => some (.bl (subT a b))
  | x, .lst _ ys => if x.fl && allFl ys then some (.bl (memD x ys)) else none
  | x, .tup _ ys => if x.fl && allFl ys then some (.bl (memD x ys)) else none
  | _, _ => none
def fNin (a b : D) : Option D := match fIn a b with
  | some (.bl k) => some (.bl (!k))
  | _ => none
def D.isNon : D → Bool
  | .non => true
  | _ => false
def fIsN (a : D) : Option D := some (.bl a.isNon)
def fNotN (a : D) : Option D := some (.bl (!a.isNon))
def ixD (n : Nat) (i : Int) : Option Nat := if 0 ≤ i then (if i < n then some i.toNat else none) else if -(n : Int) ≤ i then some (i + n).toNat else none
def fIx : D → D → Option D
  | .lst _ xs, .int i => (ixD xs.length i).bind fun j => xs[j]?.bind fun d => if d.sh then some d else none
  | .tup _ xs, .int i => (ixD xs.length i).bind fun j => xs[j]?.bind fun d => if d.sh then some d else none
  | .scr ns, .int i => (ixD ns.length i).bind fun j => ns[j]?.map .int
  | .str s, .int i => if s.length ≤ LINE then (ixD s.length i).bind fun j => s[j]?.map fun c => .str [c] else none
  | _, _ => none
def sIxD (n d : Nat) : Option Int → Nat
  | none => d
  | some v => if v < 0 then (v + (n : Int)).toNat else min v.toNat n
def cutL {α : Type} (xs : List α) (lo hi : Option Int) : List α := (xs.drop (sIxD xs.length 0 lo)).take (sIxD xs.length xs.length hi - sIxD xs.length 0 lo)
def cutD (d : D) (lo hi : Option Int) : Option D := match d with
  | .str s => if s.length ≤ LINE then some (.str (cutL s lo hi)) else none
  | .lst _ xs => if shs xs then some (.lst true (cutL xs lo hi)) else none
  | .scr ns => some (.lst true ((cutL ns lo hi).map .int))
  | _ => none
def eSl (a : E) : E := fun ρ => (a ρ).bind fun x => Res.of (cutD x none none)
def eSlLo (a lo : E) : E := fun ρ => (a ρ).bind fun x => (lo ρ).bind fun l => match l with
  | .int i => Res.of (cutD x (some i) none)
  | _ => .no
def eSlHi (a hi : E) : E := fun ρ => (a ρ).bind fun x => (hi ρ).bind fun h => match h with
  | .int j => Res.of (cutD x none (some j))
  | _ => .no
def eSlLH (a lo hi : E) : E := fun ρ => (a ρ).bind fun x => (lo ρ).bind fun l => match l with
  | .int i => (hi ρ).bind fun h => match h with
    | .int j => Res.of (cutD x (some i) (some j))
    | _ => .no
  | _ => .no
def fLen : D → Option D
  | .str s => if s.length ≤ LINE then some (.int (s.length : Nat)) else none
  | .lst _ xs => some (.int (xs.length : Nat))
  | .tup _ xs => some (.int (xs.length : Nat))
  | .scr ns => some (.int (ns.length : Nat))
  | _ => none
def fInt : D → Option D
  | .int i => some (.int i)
  | .bl b => some (.int (if b then 1 else 0))
  | _ => none
def boolsD : List D → Option (List Bool)
  | [] => some []
  | .bl b :: r => (boolsD r).map (b :: ·)
  | _ => none
def intsD : List D → Option (List Int)
  | [] => some []
  | .int b :: r => (intsD r).map (b :: ·)
  | _ => none
def strsD : List D → Option (List Tx)
  | [] => some []
  | .str b :: r => (strsD r).map (b :: ·)
  | _ => none
def fAll : D → Option D
  | .lst _ xs => (boolsD xs).map fun bs => .bl (bs.all id)
  | _ => none
def fAny : D → Option D
  | .lst _ xs => (boolsD xs).map fun bs => .bl (bs.any id)
  | _ => none
def fSum : D → Option D
  | .lst _ xs => (intsD xs).map fun ns => .int ns.sum
  | _ => none
def fList : D → Option D
  | .lst _ xs => if shs xs then some (.lst true xs) else none
  | .tup _ xs => if shs xs then some (.lst true xs) else none
  | .scr ns => some (.lst true (ns.map .int))
  | _ => none
def fOrd : D → Option D
  | .str [c] => some (.int (c : Nat))
  | _ => none
inductive Ty where
  | str | int | bool | list | tuple | dict
def isT : Ty → D → Bool
  | .str, .str _ => true
  | .int, .int _ => true
  | .int, .bl _ => true
  | .bool, .bl _ => true
  | .list, .lst _ _ => true
  | .list, .scr _ => true
  | .tuple, .tup _ _ => true
  | .dict, .dic _ _ _ => true
  | .dict, .dlk _ _ => true
  | _, _ => false
def fIsT (t : Ty) : D → Option D
  | .scr _ => none
  | .ins _ _ _ _ => none
  | d => some (.bl (isT t d))
def joinT (S : Tx) : List Tx → Tx
  | [] => []
  | [p] => p
  | p :: q :: r => p ++ (S ++ joinT S (q :: r))
def fJoin : D → D → Option D
  | .str a, .lst _ xs => (strsD xs).bind fun ys => if (ys.map List.length).sum + ys.length * a.length ≤ LINE then some (.str (joinT a ys)) else none
  | .str a, .tup _ xs => (strsD xs).bind fun ys => if (ys.map List.length).sum + ys.length * a.length ≤ LINE then some (.str (joinT a ys)) else none
  | _, _ => none
def splT (S : Tx) : Nat → Tx → Tx → List Tx
  | _, acc, [] => [acc]
  | 0, acc, c :: r => if preT S (c :: r) = true then acc :: splT S (S.length - 1) [] r else splT S 0 (acc ++ [c]) r
  | k + 1, acc, _ :: r => splT S k acc r
def fSplit : D → D → Option D
  | .str a, .str b => if decide (b ≠ []) && b.all (· < 256) && decide (a.length + 2 ≤ LINE) then some (.lst true ((splT b 0 [] a).map .str)) else none
  | _, _ => none
def upC (c : Nat) : Nat := if 97 ≤ c ∧ c ≤ 122 then c - 32 else c
def fUpper : D → Option D
  | .str s => if s.all (· < 128) && decide (s.length ≤ 5592405) then some (.str (s.map upC)) else none
  | _ => none
def fStarts : D → D → Option D
  | .str a, .str b => some (.bl (preT b a))
  | _, _ => none
def fEnds : D → D → Option D
  | .str a, .str b => some (.bl (preT b.reverse a.reverse))
  | _, _ => none
end G
namespace G
def iRange3v (a b c : E) : I := fun ρ => (a ρ).bind fun x => (b ρ).bind fun y => (c ρ).bind fun z => match x, y, z with
  | .int i, .int j, .int k => if fits62 i && fits62 j && decide (0 < k) && decide (k < 1073741824) then .ok (rangeC i k (turnsC i j k)) else .no
  | _, _, _ => .no
end G
namespace G
def supL (cs : List (String × Bool)) : String → Option Bool := fun c => cs.lookup c
def fIsX (sup : String → Option Bool) : D → Option D
  | .ins _ c ("!" :: _) _ => (sup c).map .bl
  | _ => none
def sRaise (c : String) : Sd := fun ρ => .xc c [] ρ
def raise2K (c : String) (ρ : Env) : D → D → Out
  | .int l, .int p => if fits62 l && fits62 p then .xc c [.int l, .int p] ρ else .no
  | _, _ => .no
def sRaise2 (c : String) (a b : E) : Sd := fun ρ => sE (a ρ) ρ fun x => sE (b ρ) ρ fun y => raise2K c ρ x y
def xD (c : String) (fs : List D) : D := .ins false c (match fs with | [] => ["!"] | _ => ["!", "line", "place"]) fs
def sTryKeep (body : Sd) (sup : String → Option Bool) (i j : Nat) : Sd := fun ρ => match body ρ with
  | .xc c fs ρ1 => match sup c with
    | some true => if i < ρ1.length ∧ j < ρ1.length then .nx ((put ρ1 j (xD c fs)).set i none) else .no
    | some false => .xc c fs ρ1
    | none => .no
  | o => o
end G
namespace G
def D.kids : D → List D
  | .lst _ xs => xs
  | .tup _ xs => xs
  | .dic _ _ xs => xs
  | .ins _ _ _ xs => xs
  | _ => []
def D.isO : D → Bool
  | .lst o _ => o
  | .tup o _ => o
  | .dic o _ _ => o
  | .ins o _ _ _ => o
  | _ => false
def D.kset (ys : List D) : D → D
  | .lst o _ => .lst o ys
  | .tup o _ => .tup o ys
  | .dic o ks _ => .dic o ks ys
  | .ins o c fs _ => .ins o c fs ys
  | d => d
def atP : List Nat → D → Option D
  | [], d => some d
  | j :: p, d => if d.isO then d.kids[j]?.bind (atP p) else none
def setP : List Nat → D → D → D
  | [], e, _ => e
  | j :: p, e, d => match d.kids[j]? with
    | some c => d.kset (d.kids.set j (setP p e c))
    | none => d
abbrev Pl := Env → Res (List Nat)
def pHere (i : Nat) : Pl := fun ρ => (get ρ i).bind fun _ => .ok []
def partAt (ρ : Env) (i : Nat) (p : List Nat) : Res D := (get ρ i).bind fun d => Res.of (atP p d)
def pIx (i : Nat) (o : Pl) (e : E) : Pl := fun ρ => (o ρ).bind fun p => (e ρ).bind fun k => (partAt ρ i p).bind fun d => match d, k with
  | .lst true xs, .int k => (Res.of (ixD xs.length k)).bind fun j => .ok (p ++ [j])
  | .tup true xs, .int k => (Res.of (ixD xs.length k)).bind fun j => .ok (p ++ [j])
  | _, _ => .no
def upAt (ρ : Env) (i : Nat) (p : List Nat) (e : D) : Out := match get ρ i with
  | .ok d => .nx (put ρ i (setP p e d))
  | _ => .no
def sAppP (i : Nat) (o : Pl) (e : E) : Sd := fun ρ => sE (o ρ) ρ fun p => sE (partAt ρ i p) ρ fun l => match l with
  | .lst true xs => sE (e ρ) ρ fun d => if xs.length < LINE then upAt ρ i p (.lst true (xs ++ [d])) else .no
  | _ => .no
def setIxK (ρ : Env) (i : Nat) (p : List Nat) (d : D) : D → D → Out
  | .lst true xs, .int kk => sE (Res.of (ixD xs.length kk)) ρ fun j => upAt ρ i p (.lst true (xs.set j d))
  | _, _ => .no
def sSetIx (i : Nat) (o : Pl) (k e : E) : Sd := fun ρ => sE (e ρ) ρ fun d => sE (o ρ) ρ fun p => sE (k ρ) ρ fun kd => sE (partAt ρ i p) ρ fun l => setIxK ρ i p d l kd
def fIxO : D → D → Option D
  | .lst _ xs, .int i => (ixD xs.length i).bind fun j => xs[j]?
  | .tup _ xs, .int i => (ixD xs.length i).bind fun j => xs[j]?
  | .scr ns, .int i => (ixD ns.length i).bind fun j => ns[j]?.map .int
  | .str s, .int i => if s.length ≤ LINE then (ixD s.length i).bind fun j => s[j]?.map fun c => .str [c] else none
  | _, _ => none
inductive ResM where
  | no
  | ok (d : D) (ρ : Env)
  | ex (c : String) (fs : List D) (ρ : Env)
abbrev M := Env → ResM
def sM (r : ResM) (k : D → Env → Out) : Out := match r with
  | .no => .no
  | .ok d ρ => k d ρ
  | .ex c fs ρ => .xc c fs ρ
def mFrz (m : M) : M := fun ρ => match m ρ with
  | .ok d ρ1 => .ok d.frz ρ1
  | r => r
def sSetM (i : Nat) (m : M) : Sd := fun ρ => sM (m ρ) fun d ρ1 => .nx (put ρ1 i d)
def sBindM (b : B) (m : M) : Sd := fun ρ => sM (m ρ) fun d ρ1 => sE (b d.frz ρ1).nox ρ1 fun ρ2 => .nx ρ2
def sDropM (m : M) : Sd := fun ρ => sM (m ρ) fun _ ρ1 => .nx ρ1
def sRetMM (m : M) : Sd := fun ρ => sM (m ρ) fun d ρ1 => .rt d ρ1
def mR {α : Type} (r : Res α) (ρ : Env) (k : α → ResM) : ResM := match r with
  | .no => .no
  | .ok a => k a
  | .ex c fs => .ex c fs ρ
def popK (ρ : Env) (i : Nat) (p : List Nat) : D → ResM
  | .lst true xs => match xs.getLast?, get ρ i with
    | some d, .ok d0 => .ok d (put ρ i (setP p (.lst true xs.dropLast) d0))
    | _, _ => .no
  | _ => .no
def mPop (i : Nat) (o : Pl) : M := fun ρ => mR (o ρ) ρ fun p => mR (partAt ρ i p) ρ fun l => popK ρ i p l
end G
namespace G
def fTuple : D → Option D
  | .lst _ xs => if shs xs then some (.tup true xs) else none
  | .tup false xs => some (.tup false xs)
  | .scr ns => some (.tup true (ns.map .int))
  | _ => none
def spC (c : Nat) : Bool := (decide (9 ≤ c) && decide (c ≤ 13)) || (decide (28 ≤ c) && decide (c ≤ 32))
def wordsT : Tx → Tx → List Tx
  | acc, [] => if acc = [] then [] else [acc]
  | acc, c :: r => if spC c = true then (if acc = [] then wordsT [] r else acc :: wordsT [] r) else wordsT (acc ++ [c]) r
def addToK (ρ : Env) (i : Nat) (xs : List D) : D → Out
  | .lst _ ys => if xs.length + ys.length ≤ LINE then .nx (put ρ i (.lst true (xs ++ ys))) else .no
  | _ => .no
def sAddTo (i : Nat) (e : E) : Sd := fun ρ => sE (get ρ i) ρ fun l => match l with
  | .lst true xs => sE (e ρ) ρ fun d => addToK ρ i xs d
  | _ => .no
end G
namespace G
end G
namespace G
end G
namespace G
end G
namespace G
end G
namespace G
def numT (n : Nat) : Tx := (Nat.toDigits 10 n).map Char.toNat
def fStrI : D → Option D
  | .int i => if decide (0 ≤ i) && decide (i < 18446744073709551616) then some (.str (numT i.toNat)) else none
  | _ => none
def fPow : D → D → Option D
  | .int i, .int j => if decide (0 ≤ j) && decide (j ≤ 1000) && decide (i.natAbs < 18446744073709551616) then some (.int (i ^ j.toNat)) else none
  | _, _ => none
end G
namespace G
end G
namespace G
end G
namespace G
inductive ResI where
  | no
  | ok (d d0 : D)
  | ex (c : String) (fs : List D) (d0 : D)
def at0 (ρ : Env) (k : D → ResI) : ResI := match ρ[0]? with
  | some (some d0) => k d0
  | _ => .no
def endI : Out → ResI
  | .rt d ρ => at0 ρ fun d0 => .ok d d0
  | .nx ρ => at0 ρ fun d0 => .ok .non d0
  | .xc c fs ρ => at0 ρ fun d0 => .ex c fs d0
  | _ => .no
def runI (n : Nat) (body : Sd) (ds : List D) : ResI := endI (body (ds.map some ++ List.replicate (n - ds.length) none))
def mI (ρ : Env) (i : Nat) : ResI → ResM
  | .no => .no
  | .ok d d0 => .ok d (put ρ i d0)
  | .ex c fs d0 => .ex c fs (put ρ i d0)
def mCall (i : Nat) (den : List D → ResI) (fs : List E) : M := fun ρ => mR (get ρ i) ρ fun d0 => mR (eArgs fs ρ) ρ fun ds => if shs ds then mI ρ i (den (d0 :: ds)) else .no
def insOk (c m : String) : D → Bool
  | .ins _ c' fs _ => c' == c && (!fs.contains m && !fs.contains "!")
  | _ => false
def mMeth (c m : String) (i : Nat) (den : List D → ResI) (fs : List E) : M := fun ρ => mR (get ρ i) ρ fun d0 => if insOk c m d0 then mCall i den fs ρ else .no
def eMeth (c m : String) (f : E) (den : List D → Res D) (fs : List E) : E := fun ρ => (f ρ).bind fun d => if insOk c m d then eCall den (f :: fs) ρ else .no
def eMake (c : String) (den : List D → ResI) (fs : List E) : E := fun ρ => (eArgs fs ρ).bind fun ds => if shs ds then match den (.ins true c [] [] :: ds) with
    | .ok .non d0 => .ok d0
    | _ => .no
  else .no
def D.at : D → Bool
  | .non => true
  | .bl _ => true
  | .int _ => true
  | .str _ => true
  | _ => false
def ats (ds : List D) : Bool := ds.all D.at
inductive ResMA where
  | no
  | ok (ds : List D) (ρ : Env)
  | ex (c : String) (fs : List D) (ρ : Env)
def mArgs (m : M) (bs : List E) : List E → Env → ResMA
  | [], ρ => match m ρ with
    | .no => .no
    | .ex c fs ρ1 => .ex c fs ρ1
    | .ok d ρ1 => match eArgs bs ρ1 with
      | .no => .no
      | .ex c fs => .ex c fs ρ1
      | .ok ys => if ats ys then .ok (d :: ys) ρ1 else .no
  | e :: as, ρ => match e ρ with
    | .no => .no
    | .ex c fs => .ex c fs ρ
    | .ok d => if d.at then (match mArgs m bs as ρ with
      | .no => .no
      | .ex c fs ρ1 => .ex c fs ρ1
      | .ok ds ρ1 => .ok (d :: ds) ρ1) else .no
def mPack (k : List D → D) (r : ResMA) : ResM := match r with
  | .no => .no
  | .ok ds ρ => if ds.length ≤ 1000 then .ok (k ds) ρ else .no
  | .ex c fs ρ => .ex c fs ρ
def mTup (as : List E) (m : M) (bs : List E) : M := fun ρ => mPack (.tup true) (mArgs m bs as ρ)
def mLst (as : List E) (m : M) (bs : List E) : M := fun ρ => mPack (.lst true) (mArgs m bs as ρ)
def sAppM (j : Nat) (m : M) : Sd := fun ρ => sE (get ρ j) ρ fun l0 => match l0 with
  | .lst true _ => sM (m ρ) fun d ρ1 => sE (get ρ1 j) ρ1 fun l => match l with
    | .lst true xs => if xs.length < LINE then .nx (put ρ1 j (.lst true (xs ++ [d]))) else .no
    | _ => .no
  | _ => .no
def lookF (n : String) : List String → List D → Option D
  | f :: fs, v :: vs => if f = n then some v else lookF n fs vs
  | _, _ => none
def fFldO (c n : String) : D → Option D
  | .ins _ c' fs vs => if c' == c && !fs.contains "!" then lookF n fs vs else none
  | _ => none
def fFld (c n : String) (d : D) : Option D := (fFldO c n d).bind fun v => if v.sh then some v else none
def setFn (n : String) : List String → List String
  | [] => [n]
  | f :: fs => if f = n then f :: fs else f :: setFn n fs
def setFv (n : String) (v : D) : List String → List D → List D
  | f :: fs, x :: vs => if f = n then v :: vs else x :: setFv n v fs vs
  | _, _ => [v]
def sSetF (i : Nat) (c n : String) (e : E) : Sd := fun ρ => sE (e ρ) ρ fun d => sE (get ρ i) ρ fun d0 => match d0 with
  | .ins true c' fs vs => if c' == c && (decide (fs.length < 900) && n != "!") then .nx (put ρ i (.ins true c (setFn n fs) (setFv n d fs vs))) else .no
  | _ => .no
end G
namespace G
def fRepl (y z : Tx) : D → Option D
  | .str a => if decide (y ≠ []) && (y.all (· < 256) && decide (a.length + (a.length + 1) * z.length ≤ LINE)) then some (.str (joinT z (splT y 0 [] a))) else none
  | _ => none
end G
namespace G
def clearK (ρ : Env) (i : Nat) (p : List Nat) : D → ResM
  | .lst true _ => match get ρ i with
    | .ok d0 => .ok .non (put ρ i (setP p (.lst true []) d0))
    | _ => .no
  | _ => .no
def mClear (i : Nat) (o : Pl) : M := fun ρ => mR (o ρ) ρ fun p => mR (partAt ρ i p) ρ fun l => clearK ρ i p l
def D.frzK : D → D
  | .lst o xs => .lst o (frzs xs)
  | .tup o xs => .tup o (frzs xs)
  | .dic o ks vs => .dic o ks (frzs vs)
  | .ins o c fs vs => .ins o c fs (frzs vs)
  | d => d
def sFrzK (i : Nat) (s : Sd) : Sd := fun ρ => sE (get ρ i) ρ fun d => if d.isO then s (put ρ i d.frzK) else .no
end G
namespace G
abbrev KD := Sum Int Tx
def keyD : D → Option KD
  | .int i => some (.inl i)
  | .str s => some (.inr s)
  | _ => none
def lookK (k : KD) : List KD → List D → Option D
  | x :: ks, v :: vs => if x = k then some v else lookK k ks vs
  | _, _ => none
def dgK (k : KD) : D → Option D
  | .dic _ ks vs => lookK k ks vs
  | .dlk ks vs => lookK k ks vs
  | _ => none
def fDG (d k : D) : Option D := (keyD k).bind fun k => dgK k d
def fDGs (d k : D) : Option D := (fDG d k).bind fun v => if v.sh then some v else none
def eDict (ks : List KD) (es : List E) : E := fun ρ => (eArgs es ρ).bind fun ds => .ok (.dic true ks ds)
def sAugI (i : Nat) (f : Int → Int → Int) (e : E) : Sd := fun ρ => sE (get ρ i) ρ fun a => match a with
  | .int a => sE (e ρ) ρ fun b => match b with
    | .int b => .nx (put ρ i (.int (f a b)))
    | _ => .no
  | _ => .no
end G
namespace G
def eMakeD (c : String) (den : List D → ResI) (dds : List D) (fs : List E) : E := fun ρ => (eArgs fs ρ).bind fun ds => if shs ds then match den (.ins true c [] [] :: (ds ++ dds)) with
    | .ok .non d0 => .ok d0
    | _ => .no
  else .no
def fIsI (tab : List (String × Bool)) : D → Option D
  | .ins _ c fs _ => if fs.contains "!" then none else (tab.lookup c).map .bl
  | .scr _ => none
  | _ => some (.bl false)
end G
namespace G
end G
namespace G
end G
namespace G
def posK (k : KD) : List KD → Option Nat
  | [] => none
  | x :: ks => if x = k then some 0 else (posK k ks).map (· + 1)
def pDk (i : Nat) (o : Pl) (e : E) : Pl := fun ρ => (o ρ).bind fun p => (e ρ).bind fun k => (partAt ρ i p).bind fun d => match d with
  | .dic true ks _ => (Res.of ((keyD k).bind fun kk => posK kk ks)).bind fun j => .ok (p ++ [j])
  | _ => .no
end G
namespace G
end G
namespace G
mutual
def D.nl : D → Bool
  | .lst o xs => o && nls xs
  | .tup _ xs => nls xs
  | .dic _ _ vs => nls vs
  | .dlk _ _ => false
  | .ins _ _ _ vs => nls vs
  | .scr _ => false
  | .non => true
  | .bl _ => true
  | .int _ => true
  | .str _ => true
def nls : List D → Bool
  | [] => true
  | x :: xs => x.nl && nls xs
end
mutual
def D.ol : D → Bool
  | .lst _ xs => ols xs
  | .tup o xs => !o && shs xs
  | .dic o _ vs => !o && shs vs
  | .dlk _ vs => shs vs
  | .ins o _ _ vs => !o && shs vs
  | .scr _ => true
  | .non => true
  | .bl _ => true
  | .int _ => true
  | .str _ => true
def ols : List D → Bool
  | [] => true
  | x :: xs => x.ol && ols xs
end
end G
namespace G
end G
namespace G
end G
namespace G
end G
namespace G
end G
namespace G
end G
namespace G
end G
namespace G
mutual
def D.nt : D → Bool
  | .lst o xs => o && nts xs
  | .tup o xs => (o || ats xs) && nts xs
  | .dic _ _ vs => nts vs
  | .dlk _ _ => false
  | .ins _ _ _ vs => nts vs
  | .scr _ => false
  | .non => true
  | .bl _ => true
  | .int _ => true
  | .str _ => true
def nts : List D → Bool
  | [] => true
  | x :: xs => x.nt && nts xs
end
mutual
def D.ot : D → Bool
  | .lst _ xs => ots xs
  | .tup o xs => if o then !ats xs && ots xs else shs xs
  | .dic o _ vs => !o && shs vs
  | .dlk _ vs => shs vs
  | .ins o _ _ vs => !o && shs vs
  | .scr _ => true
  | .non => true
  | .bl _ => true
  | .int _ => true
  | .str _ => true
def ots : List D → Bool
  | [] => true
  | x :: xs => x.ot && ots xs
end
end G
namespace G
end G
namespace G
end G
namespace G
def noX (den : List D → Res D) : List D → Res D := fun ds => match den ds with
  | .ok d => .ok d
  | _ => .no
end G
namespace G
end G
namespace G
def fFs (t : Tx) (d : D) : Option D := match fStrI d with
  | some (.str s) => if decide (t.length + s.length ≤ 10000) then some (.str (t ++ s)) else none
  | _ => none
end G
namespace G
def compLX (b : B) (c e : E) (ρ : Env) : List D → Res (List D)
  | [] => .ok []
  | x :: xs => (b x ρ).nox.bind fun ρ1 => (c ρ1).nox.bind fun k => match k with
    | .bl true => (e ρ1).bind fun y => (compLX b c e ρ xs).bind fun ys => .ok (y :: ys)
    | .bl false => compLX b c e ρ xs
    | _ => .no
def eCompX (vs : List Nat) (it : I) (b : B) (c e : E) : E := fun ρ => (it ρ).bind fun xs => if xs.length ≤ LINE then (compLX b c e (clr vs ρ) xs).bind fun ys => .ok (.lst true ys) else .no
@[simp] theorem eCompX_ap (vs : List Nat) (it : I) (b : B) (c e : E) (ρ : Env) : eCompX vs it b c e ρ = (it ρ).bind fun xs => if xs.length ≤ LINE then (compLX b c e (clr vs ρ) xs).bind fun ys => .ok (.lst true ys) else .no := id rfl
end G
namespace G
structure GSt where
  ρ : Env
  T : D
  qs : List (List Nat)
  al : Option (List Nat)
def nodeD (T : D) (q : List Nat) : D := match atP q T with
  | some d => d
  | none => .non
def GSt.vw (si ti : Nat) (g : GSt) : Env := match g.al with
  | none => put g.ρ si (.lst true (g.qs.map (nodeD g.T)))
  | some q => put (put g.ρ si (.lst true (g.qs.map (nodeD g.T)))) ti (nodeD g.T q)
inductive OutK where
  | no
  | nx (g : GSt)
  | rt (d : D) (ρ : Env)
abbrev Kd := GSt → OutK
def okS (si ti : Nat) (ρ : Env) : Bool := match ρ[si]?, ρ[ti]? with
  | some none, some none => true
  | _, _ => false
def kLift (si ti : Nat) (F : Sd) : Kd := fun g => match F g.ρ with
  | .nx ρ => if okS si ti ρ then .nx { g with ρ := ρ } else .no
  | _ => .no
def kPass : Kd := fun g => .nx g
def kSeq (a b : Kd) : Kd := fun g => match a g with
  | .nx g1 => b g1
  | o => o
def kIf (si ti : Nat) (c : E) (a b : Kd) : Kd := fun g => match c (g.vw si ti) with
  | .ok (.bl true) => a g
  | .ok (.bl false) => b g
  | _ => .no
def kTop (si ti : Nat) : Kd := fun g => match g.qs.getLast? with
  | some q => .nx { g with al := some q }
  | none => .no
def kApp (si ti : Nat) (pl : Pl) (e : E) : Kd := fun g => match g.al with
  | some q => match pl (g.vw si ti) with
    | .ok p => match atP (q ++ p) g.T with
      | some (.lst true xs) => match e (g.vw si ti) with
        | .ok d => if xs.length < LINE then .nx { g with T := setP (q ++ p) (.lst true (xs ++ [d])) g.T } else .no
        | _ => .no
      | _ => .no
    | _ => .no
  | none => .no
def kPush (si ti : Nat) (pl : Pl) : Kd := fun g => match g.al with
  | some q => match pl (g.vw si ti) with
    | .ok p => if (atP (q ++ p) g.T).isSome ∧ g.qs.length < LINE then .nx { g with qs := g.qs ++ [q ++ p] } else .no
    | _ => .no
  | none => .no
def kPop : Kd := fun g => if 2 ≤ g.qs.length then .nx { g with qs := g.qs.dropLast } else .no
def forK (b : B) (body : Kd) (si ti : Nat) : List D → GSt → OutK
  | [], g => .nx g
  | x :: xs, g => match (b x g.ρ).nox with
    | .ok ρ1 => if okS si ti ρ1 then match body { g with ρ := ρ1 } with
      | .nx g2 => forK b body si ti xs g2
      | _ => .no
      else .no
    | _ => .no
def kFor (si ti : Nat) (it : I) (b : B) (body : Kd) : Kd := fun g => match it (g.vw si ti) with
  | .ok xs => forK b body si ti xs g
  | _ => .no
def kRet : Kd := fun g => match g.qs with
  | [] :: _ => .rt g.T g.ρ
  | _ => .no
def sStk (si ti : Nat) (F : Kd) : Sd := fun ρ => match get ρ si with
  | .ok (.lst true [T]) => match ρ[ti]? with
    | some none => if si ≠ ti then match F ⟨ρ.set si none, T, [[]], none⟩ with
      | .rt d ρ' => .rt d ρ'
      | _ => .no
      else .no
    | _ => .no
  | _ => .no
end G
namespace G
def cpD : D → Option D
  | .lst _ xs => if shs xs then some (.lst true xs) else none
  | .non => some .non
  | _ => none
def eMakeC (c : String) (n1 n2 n3 : String) (dds : List D) (fs : List E) : E := fun ρ => (eArgs fs ρ).bind fun ds => match ds ++ dds with
  | [a, b, d] => match cpD a, cpD b, cpD d with
    | some x, some y, some z => .ok (.ins true c [n1, n2, n3] [x, y, z])
    | _, _, _ => .no
  | _ => .no
def fIsTI (t : Ty) (tab : List (String × Bool)) : D → Option D
  | .scr _ => none
  | .ins _ c fs _ => if fs.contains "!" then none else (tab.lookup c).map .bl
  | d => some (.bl (isT t d))
def fEqE : D → D → Option D
  | .lst _ xs, .lst _ [] => some (.bl xs.isEmpty)
  | _, _ => none
end G
set_option maxHeartbeats 400000
namespace G
open PySem L2
def tS (s : Tx) : Str := ⟨s.toArray⟩
def kK : Sum Int Tx → Key
  | .inl i => .inl i
  | .inr s => .inr (tS s)
def kOk : Sum Int Tx → Prop
  | .inl _ => True
  | .inr s => ∀ c ∈ s, c < 0x110000
def clK (K : PySem.W.Frag) (c : String) : Addr := match PySem.W.nsIn K PySem.mainGlobals (Str.ofString c) with
  | some (some (.ref a)) => a
  | _ => 0
theorem clK_of {K : PySem.W.Frag} {c : String} {a : Addr} (h : PySem.W.nsIn K PySem.mainGlobals (Str.ofString c) = some (some (.ref a))) : clK K c = a := by
  unfold clK; rw [h]
def exV (a C : Addr) (dd : Option Addr) : HO := .ext fun h => ∃ (oe : Obj) (vs : Array Value), h.get? a = some oe ∧ Zc (.ref C) dd oe ∧ oe.data = .fields vs
def XF (S : Hp) (fs : List String) (vs : List D) (dd : Option Addr) : Prop :=
  (fs = ["!"] ∧ vs = [] ∧ dd = none) ∨ ∃ (d : Addr) (l p : Int), dd = some d ∧ fs = ["!", "line", "place"] ∧ vs = [.int l, .int p] ∧ S d = some (.xd [("place", .int p), ("line", .int l)])
theorem XF.mono {S S' : Hp} {fs : List String} {vs : List D} {dd : Option Addr} (e : Same S S') (h : XF S fs vs dd) : XF S' fs vs dd := by
  rcases h with h | ⟨d, l, p, h1, h2, h3, h4⟩
  · exact .inl h
  · exact .inr ⟨d, l, p, h1, h2, h3, e _ _ h4⟩
theorem XF.frz {S : Hp} {fs : List String} {vs : List D} {dd : Option Addr} (h : XF S fs vs dd) : frzs vs = vs := by
  rcases h with ⟨_, rfl, _⟩ | ⟨d, l, p, _, _, rfl, _⟩ <;> simp [frzs, D.frz]
mutual
inductive Rp (K : PySem.W.Frag) (S H : Hp) : V → D → List Addr → Prop
  | non : Rp K S H .non .non []
  | bl (b : Bool) : Rp K S H (.bl b) (.bl b) []
  | int (i : Int) : Rp K S H (.int i) (.int i) []
  | str (s : Tx) : (∀ c ∈ s, c < 0x110000) → Rp K S H (.str (tS s)) (.str s) []
  | scr {a : Addr} (ns : List Int) : SqL K S a (ns.map V.int) → Rp K S H (.ref a) (.scr ns) []
  | lstS {a : Addr} {vs : List V} {ds : List D} : S a = some (.lst vs) → RpAll K S H vs ds [] → shs ds = true → Rp K S H (.ref a) (.lst false ds) []
  | lstO {a : Addr} {vs : List V} {ds : List D} {ps : List Addr} : H a = some (.lst vs) → RpAll K S H vs ds ps → Rp K S H (.ref a) (.lst true ds) (a :: ps)
  | tupS {a : Addr} {vs : List V} {ds : List D} : SqT K S a vs → RpAll K S H vs ds [] → shs ds = true → Rp K S H (.ref a) (.tup false ds) []
  | tupO {a : Addr} {vs : List V} {ds : List D} {ps : List Addr} : H a = some (.tup vs) → RpAll K S H vs ds ps → Rp K S H (.ref a) (.tup true ds) (a :: ps)
  | dicS {a : Addr} {kvs : List (Key × V)} {ks : List (Sum Int Tx)} {ds : List D} : S a = some (.dK kvs) → (kvs.map (·.1) = ks.map kK ∧ ∀ k ∈ ks, kOk k) → RpAll K S H (kvs.map (·.2)) ds [] → shs ds = true → Rp K S H (.ref a) (.dic false ks ds) []
  | dlk {a : Addr} {kvs : List (Key × V)} {ks : List (Sum Int Tx)} {ds : List D} {ob : Obj} : S a = some (.frz ob (.dK kvs)) → (kvs.map (·.1) = ks.map kK ∧ ∀ k ∈ ks, kOk k) → RpAll K S H (kvs.map (·.2)) ds [] → shs ds = true → Rp K S H (.ref a) (.dlk ks ds) []
  | dicO {a : Addr} {kvs : List (Key × V)} {ks : List (Sum Int Tx)} {ds : List D} {ps : List Addr} : H a = some (.dK kvs) → (kvs.map (·.1) = ks.map kK ∧ ∀ k ∈ ks, kOk k) → RpAll K S H (kvs.map (·.2)) ds ps → Rp K S H (.ref a) (.dic true ks ds) (a :: ps)
  | xcp {a : Addr} {c : String} {fs : List String} {vs : List D} {dd : Option Addr} : S a = some (exV a (clK K c) dd) → XF S fs vs dd → Rp K S H (.ref a) (.ins false c fs vs) []
  | insS {a dx : Addr} {c : String} {fs : List String} {fv : List (Str × V)} {ds : List D} : S a = some (.ins (clK K c) dx fv) → (fv.map (·.1) = fs.map Str.ofString ∧ "!" ∉ fs) → RpAll K S H (fv.map (·.2)) ds [] → shs ds = true → Rp K S H (.ref a) (.ins false c fs ds) []
  | insO {a dx : Addr} {c : String} {fs : List String} {fv : List (Str × V)} {ds : List D} {ps : List Addr} : H a = some (.ins (clK K c) dx fv) → (fv.map (·.1) = fs.map Str.ofString ∧ "!" ∉ fs) → RpAll K S H (fv.map (·.2)) ds ps → Rp K S H (.ref a) (.ins true c fs ds) (a :: ps)
inductive RpAll (K : PySem.W.Frag) (S H : Hp) : List V → List D → List Addr → Prop
  | nil : RpAll K S H [] [] []
  | cons {v : V} {vs : List V} {d : D} {ds : List D} {ps qs : List Addr} : Rp K S H v d ps → RpAll K S H vs ds qs → RpAll K S H (v :: vs) (d :: ds) (ps ++ qs)
end
theorem shs_all (xs : List D) : shs xs = xs.all D.sh := by
  induction xs with
  | nil => rfl
  | cons x xs ih => simp [shs, ih]
theorem frzs_map (xs : List D) : frzs xs = xs.map D.frz := by
  induction xs with
  | nil => rfl
  | cons x xs ih => simp [frzs, ih]
theorem rd_mono {S S' : Hp} {a : Addr} {u : HO} (e : Same S S') (h : Rd S a u) : Rd S' a u := by
  rcases h with h | ⟨o, h⟩
  · exact .inl (e _ _ h)
  · exact .inr ⟨o, e _ _ h⟩
theorem sql_mono {K : PySem.W.Frag} {S S' : Hp} {a : Addr} {xs : List V} (e : Same S S') (h : SqL K S a xs) : SqL K S' a xs := by
  rcases h with h | h
  · exact .inl (rd_mono e h)
  · exact .inr h
theorem sqt_mono {K : PySem.W.Frag} {S S' : Hp} {a : Addr} {xs : List V} (e : Same S S') (h : SqT K S a xs) : SqT K S' a xs := by
  rcases h with h | h
  · exact .inl (rd_mono e h)
  · exact .inr h
section
variable {K : PySem.W.Frag} {S H S' H' : Hp}
mutual
theorem Rp.mono (es : Same S S') (eh : Same H H') : ∀ {v : V} {d : D} {ps : List Addr}, Rp K S H v d ps → Rp K S' H' v d ps
  | _, _, _, .non => .non
  | _, _, _, .bl b => .bl b
  | _, _, _, .int i => .int i
  | _, _, _, .str s h => .str s h
  | _, _, _, .scr ns q => .scr ns (sql_mono es q)
  | _, _, _, .lstS q r s => .lstS (es _ _ q) (RpAll.mono es eh r) s
  | _, _, _, .lstO q r => .lstO (eh _ _ q) (RpAll.mono es eh r)
  | _, _, _, .tupS q r s => .tupS (sqt_mono es q) (RpAll.mono es eh r) s
  | _, _, _, .tupO q r => .tupO (eh _ _ q) (RpAll.mono es eh r)
  | _, _, _, .dicS q k r s => .dicS (es _ _ q) k (RpAll.mono es eh r) s
  | _, _, _, .dlk q k r s => .dlk (es _ _ q) k (RpAll.mono es eh r) s
  | _, _, _, .dicO q k r => .dicO (eh _ _ q) k (RpAll.mono es eh r)
  | _, _, _, .xcp q f => .xcp (es _ _ q) (f.mono es)
  | _, _, _, .insS q k r s => .insS (es _ _ q) k (RpAll.mono es eh r) s
  | _, _, _, .insO q k r => .insO (eh _ _ q) k (RpAll.mono es eh r)
theorem RpAll.mono (es : Same S S') (eh : Same H H') : ∀ {vs : List V} {ds : List D} {ps : List Addr}, RpAll K S H vs ds ps → RpAll K S' H' vs ds ps
  | _, _, _, .nil => .nil
  | _, _, _, .cons r t => .cons (Rp.mono es eh r) (RpAll.mono es eh t)
end
mutual
theorem Rp.sh : ∀ {v : V} {d : D} {ps : List Addr}, Rp K S H v d ps → d.sh = true → ps = [] ∧ ∀ H', Rp K S H' v d []
  | _, _, _, .non, _ => ⟨rfl, fun _ => .non⟩
  | _, _, _, .bl b, _ => ⟨rfl, fun _ => .bl b⟩
  | _, _, _, .int i, _ => ⟨rfl, fun _ => .int i⟩
  | _, _, _, .str s h, _ => ⟨rfl, fun _ => .str s h⟩
  | _, _, _, .scr ns q, _ => ⟨rfl, fun _ => .scr ns q⟩
  | _, _, _, .lstS q r s, _ => ⟨rfl, fun H' => .lstS q ((RpAll.sh r s).2 H') s⟩
  | _, _, _, .lstO q r, h => by simp [D.sh] at h
  | _, _, _, .tupS q r s, _ => ⟨rfl, fun H' => .tupS q ((RpAll.sh r s).2 H') s⟩
  | _, _, _, .tupO q r, h => by simp [D.sh] at h
  | _, _, _, .dicS q k r s, _ => ⟨rfl, fun H' => .dicS q k ((RpAll.sh r s).2 H') s⟩
  | _, _, _, .dlk q k r s, _ => ⟨rfl, fun H' => .dlk q k ((RpAll.sh r s).2 H') s⟩
  | _, _, _, .dicO q k r, h => by simp [D.sh] at h
  | _, _, _, .xcp q f, _ => ⟨rfl, fun _ => .xcp q f⟩
  | _, _, _, .insS q k r s, _ => ⟨rfl, fun H' => .insS q k ((RpAll.sh r s).2 H') s⟩
  | _, _, _, .insO q k r, h => by simp [D.sh] at h
theorem RpAll.sh : ∀ {vs : List V} {ds : List D} {ps : List Addr}, RpAll K S H vs ds ps → shs ds = true → ps = [] ∧ ∀ H', RpAll K S H' vs ds []
  | _, _, _, .nil, _ => ⟨rfl, fun _ => .nil⟩
  | _, _, _, .cons r t, h => by
    simp only [shs, Bool.and_eq_true] at h
    obtain ⟨e1, r1⟩ := Rp.sh r h.1
    obtain ⟨e2, r2⟩ := RpAll.sh t h.2
    subst e1 e2
    exact ⟨rfl, fun H' => by simpa using RpAll.cons (r1 H') (r2 H')⟩
end
mutual
theorem Rp.ow (S' : Hp) : ∀ {v : V} {d : D} {ps : List Addr}, Rp K S H v d ps → d.ow = true → Rp K S' H v d ps
  | _, _, _, .non, _ => .non
  | _, _, _, .bl b, _ => .bl b
  | _, _, _, .int i, _ => .int i
  | _, _, _, .str s h, _ => .str s h
  | _, _, _, .scr ns q, h => by simp [D.ow] at h
  | _, _, _, .lstS q r s, h => by simp [D.ow] at h
  | _, _, _, .lstO q r, h => .lstO q (RpAll.ow S' r (by simpa [D.ow] using h))
  | _, _, _, .tupS q r s, h => by simp [D.ow] at h
  | _, _, _, .tupO q r, h => .tupO q (RpAll.ow S' r (by simpa [D.ow] using h))
  | _, _, _, .dicS q k r s, h => by simp [D.ow] at h
  | _, _, _, .dlk q k r s, h => by simp [D.ow] at h
  | _, _, _, .dicO q k r, h => .dicO q k (RpAll.ow S' r (by simpa [D.ow] using h))
  | _, _, _, .xcp q f, h => by simp [D.ow] at h
  | _, _, _, .insS q k r s, h => by simp [D.ow] at h
  | _, _, _, .insO q k r, h => .insO q k (RpAll.ow S' r (by simpa [D.ow] using h))
theorem RpAll.ow (S' : Hp) : ∀ {vs : List V} {ds : List D} {ps : List Addr}, RpAll K S H vs ds ps → ows ds = true → RpAll K S' H vs ds ps
  | _, _, _, .nil, _ => .nil
  | _, _, _, .cons r t, h => by
    simp only [ows, Bool.and_eq_true] at h
    exact .cons (Rp.ow S' r h.1) (RpAll.ow S' t h.2)
end
mutual
theorem frz_sh : ∀ d : D, d.frz.sh = true
  | .lst _ xs => by simp [D.frz, D.sh, frzs_shs xs]
  | .tup _ xs => by simp [D.frz, D.sh, frzs_shs xs]
  | .dic _ _ vs => by simp [D.frz, D.sh, frzs_shs vs]
  | .dlk _ vs => by simp [D.frz, D.sh, frzs_shs vs]
  | .ins _ _ _ vs => by simp [D.frz, D.sh, frzs_shs vs]
  | .scr _ => rfl
  | .non => rfl
  | .bl _ => rfl
  | .int _ => rfl
  | .str _ => rfl
theorem frzs_shs : ∀ ds : List D, shs (frzs ds) = true
  | [] => rfl
  | d :: ds => by simp [frzs, shs, frz_sh d, frzs_shs ds]
end
mutual
theorem Rp.frz (es : Same S S') : ∀ {v : V} {d : D} {ps : List Addr}, Rp K S H v d ps → (∀ p ∈ ps, ∀ o, H p = some o → S' p = some o) → ∀ H', Rp K S' H' v d.frz []
  | _, _, _, .non, _, _ => .non
  | _, _, _, .bl b, _, _ => .bl b
  | _, _, _, .int i, _, _ => .int i
  | _, _, _, .str s h, _, _ => .str s h
  | _, _, _, .scr ns q, h, H' => .scr ns (sql_mono es q)
  | _, _, _, .lstS q r s, h, H' => .lstS (es _ _ q) (RpAll.frz es r (fun _ z => nomatch z) H') (frzs_shs _)
  | _, _, _, .lstO q r, h, H' => .lstS (h _ (List.mem_cons_self ..) _ q) (RpAll.frz es r (fun p hp => h p (List.mem_cons_of_mem _ hp)) H') (frzs_shs _)
  | _, _, _, .tupS q r s, h, H' => .tupS (sqt_mono es q) (RpAll.frz es r (fun _ z => nomatch z) H') (frzs_shs _)
  | _, _, _, .tupO q r, h, H' => .tupS (.inl (.inl (h _ (List.mem_cons_self ..) _ q))) (RpAll.frz es r (fun p hp => h p (List.mem_cons_of_mem _ hp)) H') (frzs_shs _)
  | _, _, _, .dicS q k r s, h, H' => .dicS (es _ _ q) k (RpAll.frz es r (fun _ z => nomatch z) H') (frzs_shs _)
  | _, _, _, .dlk q k r s, h, H' => .dlk (es _ _ q) k (RpAll.frz es r (fun _ z => nomatch z) H') (frzs_shs _)
  | _, _, _, .dicO q k r, h, H' => .dicS (h _ (List.mem_cons_self ..) _ q) k (RpAll.frz es r (fun p hp => h p (List.mem_cons_of_mem _ hp)) H') (frzs_shs _)
  | _, _, _, .xcp q f, h, H' => by
    show Rp K _ _ _ (.ins false _ _ (frzs _)) _
    rw [f.frz]; exact .xcp (es _ _ q) (f.mono es)
  | _, _, _, .insS q k r s, h, H' => .insS (es _ _ q) k (RpAll.frz es r (fun _ z => nomatch z) H') (frzs_shs _)
  | _, _, _, .insO q k r, h, H' => .insS (h _ (List.mem_cons_self ..) _ q) k (RpAll.frz es r (fun p hp => h p (List.mem_cons_of_mem _ hp)) H') (frzs_shs _)
theorem RpAll.frz (es : Same S S') : ∀ {vs : List V} {ds : List D} {ps : List Addr}, RpAll K S H vs ds ps → (∀ p ∈ ps, ∀ o, H p = some o → S' p = some o) → ∀ H', RpAll K S' H' vs (frzs ds) []
  | _, _, _, .nil, _, _ => .nil
  | _, _, _, .cons r t, h, H' => by
    have a := Rp.frz es r (fun p hp => h p (List.mem_append_left _ hp)) H'
    have b := RpAll.frz es t (fun p hp => h p (List.mem_append_right _ hp)) H'
    simpa [frzs] using RpAll.cons a b
end
mutual
theorem Rp.set {x : Addr} {o : HO} : ∀ {v : V} {d : D} {ps : List Addr}, Rp K S H v d ps → x ∉ ps → Rp K S (upd H x o) v d ps
  | _, _, _, .non, _ => .non
  | _, _, _, .bl b, _ => .bl b
  | _, _, _, .int i, _ => .int i
  | _, _, _, .str s h, _ => .str s h
  | _, _, _, .scr ns q, h => .scr ns q
  | _, _, _, .lstS q r s, h => .lstS q (RpAll.set r (by simp)) s
  | _, _, _, .lstO q r, h => .lstO (by rw [upd_ne (fun z => h (by simp [z]))]; exact q) (RpAll.set r (fun z => h (by simp [z])))
  | _, _, _, .tupS q r s, h => .tupS q (RpAll.set r (by simp)) s
  | _, _, _, .tupO q r, h => .tupO (by rw [upd_ne (fun z => h (by simp [z]))]; exact q) (RpAll.set r (fun z => h (by simp [z])))
  | _, _, _, .dicS q k r s, h => .dicS q k (RpAll.set r (by simp)) s
  | _, _, _, .dlk q k r s, h => .dlk q k (RpAll.set r (by simp)) s
  | _, _, _, .dicO q k r, h => .dicO (by rw [upd_ne (fun z => h (by simp [z]))]; exact q) k (RpAll.set r (fun z => h (by simp [z])))
  | _, _, _, .xcp q f, h => .xcp q f
  | _, _, _, .insS q k r s, h => .insS q k (RpAll.set r (by simp)) s
  | _, _, _, .insO q k r, h => .insO (by rw [upd_ne (fun z => h (by simp [z]))]; exact q) k (RpAll.set r (fun z => h (by simp [z])))
theorem RpAll.set {x : Addr} {o : HO} : ∀ {vs : List V} {ds : List D} {ps : List Addr}, RpAll K S H vs ds ps → x ∉ ps → RpAll K S (upd H x o) vs ds ps
  | _, _, _, .nil, _ => .nil
  | _, _, _, .cons r t, h => .cons (Rp.set r (fun z => h (by simp [z]))) (RpAll.set t (fun z => h (by simp [z])))
end
mutual
theorem Rp.there : ∀ {v : V} {d : D} {ps : List Addr}, Rp K S H v d ps → ∀ p, p ∈ ps → ∃ o, H p = some o
  | _, _, _, .non, p, hp => by cases hp
  | _, _, _, .bl _, p, hp => by cases hp
  | _, _, _, .int _, p, hp => by cases hp
  | _, _, _, .str _ _, p, hp => by cases hp
  | _, _, _, .scr _ _, p, hp => by cases hp
  | _, _, _, .lstS _ _ _, p, hp => by cases hp
  | _, _, _, .tupS _ _ _, p, hp => by cases hp
  | _, _, _, .dicS _ _ _ _, p, hp => by cases hp
  | _, _, _, .dlk _ _ _ _, p, hp => by cases hp
  | _, _, _, .xcp _ _, p, hp => by cases hp
  | _, _, _, .insS _ _ _ _, p, hp => by cases hp
  | _, _, _, .insO q _ r, p, hp => (List.mem_cons.mp hp).elim (fun e => ⟨_, e ▸ q⟩) (fun hp => RpAll.there r p hp)
  | _, _, _, .dicO q _ r, p, hp => (List.mem_cons.mp hp).elim (fun e => ⟨_, e ▸ q⟩) (fun hp => RpAll.there r p hp)
  | _, _, _, .lstO q r, p, hp => (List.mem_cons.mp hp).elim (fun e => ⟨_, e ▸ q⟩) (fun hp => RpAll.there r p hp)
  | _, _, _, .tupO q r, p, hp => (List.mem_cons.mp hp).elim (fun e => ⟨_, e ▸ q⟩) (fun hp => RpAll.there r p hp)
theorem RpAll.there : ∀ {vs : List V} {ds : List D} {ps : List Addr}, RpAll K S H vs ds ps → ∀ p, p ∈ ps → ∃ o, H p = some o
  | _, _, _, .nil, p, hp => by cases hp
  | _, _, _, .cons r t, p, hp => (List.mem_append.mp hp).elim (fun hp => Rp.there r p hp) (fun hp => RpAll.there t p hp)
end
mutual
theorem Rp.noxd {gs : List (Str × V)} : ∀ {v : V} {d : D} {ps : List Addr}, Rp K S H v d ps → ∀ p, p ∈ ps → H p ≠ some (.xd gs)
  | _, _, _, .non, p, hp => by cases hp
  | _, _, _, .bl _, p, hp => by cases hp
  | _, _, _, .int _, p, hp => by cases hp
  | _, _, _, .str _ _, p, hp => by cases hp
  | _, _, _, .scr _ _, p, hp => by cases hp
  | _, _, _, .lstS _ _ _, p, hp => by cases hp
  | _, _, _, .tupS _ _ _, p, hp => by cases hp
  | _, _, _, .dicS _ _ _ _, p, hp => by cases hp
  | _, _, _, .dlk _ _ _ _, p, hp => by cases hp
  | _, _, _, .xcp _ _, p, hp => by cases hp
  | _, _, _, .insS _ _ _ _, p, hp => by cases hp
  | _, _, _, .insO q _ r, p, hp => (List.mem_cons.mp hp).elim (fun e z => by rw [e, q] at z; cases z) (fun hp => RpAll.noxd r p hp)
  | _, _, _, .dicO q _ r, p, hp => (List.mem_cons.mp hp).elim (fun e z => by rw [e, q] at z; cases z) (fun hp => RpAll.noxd r p hp)
  | _, _, _, .lstO q r, p, hp => (List.mem_cons.mp hp).elim (fun e z => by rw [e, q] at z; cases z) (fun hp => RpAll.noxd r p hp)
  | _, _, _, .tupO q r, p, hp => (List.mem_cons.mp hp).elim (fun e z => by rw [e, q] at z; cases z) (fun hp => RpAll.noxd r p hp)
theorem RpAll.noxd {gs : List (Str × V)} : ∀ {vs : List V} {ds : List D} {ps : List Addr}, RpAll K S H vs ds ps → ∀ p, p ∈ ps → H p ≠ some (.xd gs)
  | _, _, _, .nil, p, hp => by cases hp
  | _, _, _, .cons r t, p, hp => (List.mem_append.mp hp).elim (fun hp => Rp.noxd r p hp) (fun hp => RpAll.noxd t p hp)
end
theorem RpAll.append : ∀ {vs ws : List V} {ds es : List D} {ps qs : List Addr}, RpAll K S H vs ds ps → RpAll K S H ws es qs → RpAll K S H (vs ++ ws) (ds ++ es) (ps ++ qs)
  | _, _, _, _, _, _, .nil, h => h
  | _, _, _, _, _, _, .cons r t, h => by
    have := RpAll.cons r (RpAll.append t h)
    simpa [List.append_assoc] using this
theorem RpAll.length : ∀ {vs : List V} {ds : List D} {ps : List Addr}, RpAll K S H vs ds ps → vs.length = ds.length
  | _, _, _, .nil => rfl
  | _, _, _, .cons r t => by simp [RpAll.length t]
theorem RpAll.get : ∀ {vs : List V} {ds : List D} {ps : List Addr} {i : Nat} {d : D}, RpAll K S H vs ds ps → ds[i]? = some d → ∃ v qs, vs[i]? = some v ∧ Rp K S H v d qs ∧ ∀ q ∈ qs, q ∈ ps
  | _, _, _, _, _, .nil, h => by simp at h
  | _, _, _, 0, _, .cons (ps := qs) r t, h => by
    simp at h; subst h
    exact ⟨_, qs, rfl, r, fun q hq => List.mem_append_left _ hq⟩
  | _, _, _, i + 1, _, .cons r t, h => by
    obtain ⟨v, qs, h1, h2, h3⟩ := RpAll.get (i := i) t (by simpa using h)
    exact ⟨v, qs, by simpa using h1, h2, fun q hq => List.mem_append_right _ (h3 q hq)⟩
theorem RpAll.cut : ∀ (n : Nat) {vs : List V} {ds : List D} {ps : List Addr}, RpAll K S H vs ds ps → (∃ qs, RpAll K S H (vs.take n) (ds.take n) qs) ∧ ∃ qs, RpAll K S H (vs.drop n) (ds.drop n) qs
  | 0, _, _, _, h => ⟨⟨[], .nil⟩, ⟨_, by simpa using h⟩⟩
  | n + 1, _, _, _, .nil => ⟨⟨[], .nil⟩, ⟨[], .nil⟩⟩
  | n + 1, _, _, _, .cons r t => by
    obtain ⟨⟨qs, h1⟩, ⟨rs, h2⟩⟩ := RpAll.cut n t
    exact ⟨⟨_, .cons r h1⟩, ⟨rs, h2⟩⟩
theorem shs_take (n : Nat) : ∀ {ds : List D}, shs ds = true → shs (ds.take n) = true := fun {ds} h => by
  rw [shs_all] at h ⊢
  rw [List.all_eq_true] at h ⊢
  exact fun x hx => h x (List.mem_of_mem_take hx)
theorem shs_drop (n : Nat) : ∀ {ds : List D}, shs ds = true → shs (ds.drop n) = true := fun {ds} h => by
  rw [shs_all] at h ⊢
  rw [List.all_eq_true] at h ⊢
  exact fun x hx => h x (List.mem_of_mem_drop hx)
theorem shs_append {a b : List D} (h : shs a = true) (h' : shs b = true) : shs (a ++ b) = true := by
  rw [shs_all] at h h' ⊢
  rw [List.all_append, h, h']
  rfl
theorem RpAll.take (n : Nat) {vs : List V} {ds : List D} {ps : List Addr} (h : RpAll K S H vs ds ps) (s : shs ds = true) : RpAll K S H (vs.take n) (ds.take n) [] := by
  obtain ⟨⟨qs, h1⟩, _⟩ := RpAll.cut n h
  exact (RpAll.sh h1 (shs_take n s)).2 H
theorem RpAll.drop (n : Nat) {vs : List V} {ds : List D} {ps : List Addr} (h : RpAll K S H vs ds ps) (s : shs ds = true) : RpAll K S H (vs.drop n) (ds.drop n) [] := by
  obtain ⟨_, ⟨qs, h1⟩⟩ := RpAll.cut n h
  exact (RpAll.sh h1 (shs_drop n s)).2 H
end
def New (S S' H : Hp) : Prop := ∀ a o, S' a = some o → S a = none → H a = none
structure Grow (S H S' H' : Hp) : Prop where
  hh : Same H H'
  ss : Same S S'
  sh : Same S' H'
  nw : New S S' H
theorem Grow.refl {S H : Hp} (h : Same S H) : Grow S H S H := ⟨.refl _, .refl _, h, fun a o h1 h2 => by rw [h1] at h2; cases h2⟩
theorem none_back {H H' : Hp} {a : Addr} (e : Same H H') (h : H' a = none) : H a = none := e.free h
theorem Grow.trans {S H S1 H1 S2 H2 : Hp} (a : Grow S H S1 H1) (b : Grow S1 H1 S2 H2) : Grow S H S2 H2 :=
  ⟨a.hh.trans b.hh, a.ss.trans b.ss, b.sh, fun x o h1 h2 => by
    cases e : S1 x with
    | none => exact none_back a.hh (b.nw x o h1 e)
    | some u => exact a.nw x u e h2⟩
theorem Grow.more {S H S' H' H2 : Hp} (a : Grow S H S' H') (e : Same H' H2) : Grow S H S' H2 := ⟨a.hh.trans e, a.ss, a.sh.trans e, a.nw⟩
theorem same_new {H : Hp} {p : Addr} {o : HO} (h : H p = none) : Same H (upd H p o) := fun b x e => by
  rw [upd_ne (ne_of_none e h)]
  exact e
theorem same_set {H H' : Hp} {p : Addr} {o : HO} (e : Same H H') (h : H p = none) : Same H (upd H' p o) := fun b x z => by
  rw [upd_ne (ne_of_none z h)]
  exact e _ _ z
def Fresh (H S' : Hp) (qs : List Addr) : Prop := qs.Nodup ∧ ∀ q ∈ qs, H q = none ∧ S' q = none
theorem Fresh.nil {H S' : Hp} : Fresh H S' [] := ⟨List.nodup_nil, fun _ z => nomatch z⟩
theorem Fresh.back {H H1 S' : Hp} {qs : List Addr} (e : Same H H1) (f : Fresh H1 S' qs) : Fresh H S' qs := ⟨f.1, fun q hq => ⟨none_back e (f.2 q hq).1, (f.2 q hq).2⟩⟩
theorem Fresh.on {H S1 H1 S2 H2 : Hp} {qs : List Addr} (f : Fresh H S1 qs) (g : Grow S1 H1 S2 H2) (th : ∀ q ∈ qs, ∃ o, H1 q = some o) : Fresh H S2 qs := ⟨f.1, fun q hq => ⟨(f.2 q hq).1, by
  cases e : S2 q with
  | none => rfl
  | some u =>
    obtain ⟨o, ho⟩ := th q hq
    have z := g.nw q u e (f.2 q hq).2
    rw [ho] at z; cases z⟩⟩
theorem Fresh.app {H S1 H1 S2 H2 : Hp} {ps qs : List Addr} (f : Fresh H S1 ps) (th : ∀ q ∈ ps, ∃ o, H1 q = some o) (e : Same H H1) (g : Grow S1 H1 S2 H2) (f2 : Fresh H1 S2 qs) : Fresh H S2 (ps ++ qs) := by
  have f1 := f.on g th
  refine ⟨List.nodup_append.mpr ⟨f.1, f2.1, fun a ha b hb z => ?_⟩, fun q hq => ?_⟩
  · obtain ⟨o, ho⟩ := th a ha
    have := (f2.2 b hb).1
    rw [← z, ho] at this; cases this
  · rcases List.mem_append.mp hq with hq | hq
    · exact f1.2 q hq
    · exact (f2.back e).2 q hq
inductive Its (K : PySem.W.Frag) (S H : Hp) : L2.St → Env → List Addr → Prop
  | nil : Its K S H [] [] []
  | skip {x : Option V} {σ : L2.St} {ρ : Env} {ps : List Addr} : Its K S H σ ρ ps → Its K S H (x :: σ) (none :: ρ) ps
  | item {v : V} {d : D} {σ : L2.St} {ρ : Env} {qs ps : List Addr} : Rp K S H v d qs → Its K S H σ ρ ps → Its K S H (some v :: σ) (some d :: ρ) (qs ++ ps)
def Look (K : PySem.W.Frag) (S H : Hp) (σ : L2.St) (ρ : Env) : Prop := σ.length = ρ.length ∧ ∀ (i : Nat) (d : D), ρ[i]? = some (some d) → ∃ v qs, σ[i]? = some (some v) ∧ Rp K S H v d qs
section
variable {K : PySem.W.Frag} {S H S' H' : Hp} {σ : L2.St} {ρ : Env}
theorem Look.mono (g : Grow S H S' H') (l : Look K S H σ ρ) : Look K S' H' σ ρ := ⟨l.1, fun i d h => by
  obtain ⟨v, qs, h1, h2⟩ := l.2 i d h
  exact ⟨v, qs, h1, h2.mono g.ss g.hh⟩⟩
theorem Its.look : ∀ {σ : L2.St} {ρ : Env} {ps : List Addr}, Its K S H σ ρ ps → Look K S H σ ρ
  | _, _, _, .nil => ⟨rfl, fun i d h => by simp at h⟩
  | _, _, _, .skip t => ⟨by simp [(Its.look t).1], fun i d h => by
    cases i with
    | zero => simp at h
    | succ i => simpa using (Its.look t).2 i d (by simpa using h)⟩
  | _, _, _, .item r t => ⟨by simp [(Its.look t).1], fun i d h => by
    cases i with
    | zero =>
      simp at h; subst h
      exact ⟨_, _, rfl, r⟩
    | succ i => simpa using (Its.look t).2 i d (by simpa using h)⟩
theorem Its.mono (es : Same S S') (eh : Same H H') : ∀ {σ : L2.St} {ρ : Env} {ps : List Addr}, Its K S H σ ρ ps → Its K S' H' σ ρ ps
  | _, _, _, .nil => .nil
  | _, _, _, .skip t => .skip (Its.mono es eh t)
  | _, _, _, .item r t => .item (r.mono es eh) (Its.mono es eh t)
theorem Its.there : ∀ {σ : L2.St} {ρ : Env} {ps : List Addr}, Its K S H σ ρ ps → ∀ p, p ∈ ps → ∃ o, H p = some o
  | _, _, _, .nil, p, hp => by cases hp
  | _, _, _, .skip t, p, hp => Its.there t p hp
  | _, _, _, .item r t, p, hp => (List.mem_append.mp hp).elim (fun hp => r.there p hp) (fun hp => Its.there t p hp)
theorem Its.set {x : Addr} {o : HO} : ∀ {σ : L2.St} {ρ : Env} {ps : List Addr}, Its K S H σ ρ ps → x ∉ ps → Its K S (upd H x o) σ ρ ps
  | _, _, _, .nil, _ => .nil
  | _, _, _, .skip t, h => .skip (Its.set t h)
  | _, _, _, .item r t, h => .item (r.set (fun z => h (by simp [z]))) (Its.set t (fun z => h (by simp [z])))
theorem Its.put {v : V} {d : D} {qs : List Addr} (r : Rp K S H v d qs) : ∀ {σ : L2.St} {ρ : Env} {ps : List Addr} (i : Nat), Its K S H σ ρ ps → i < ρ.length → ∃ ps', Its K S H (σ.set i (some v)) (put ρ i d) ps' ∧ (∀ p ∈ ps', p ∈ ps ∨ p ∈ qs) ∧ (ps.Nodup → qs.Nodup → (∀ p ∈ ps, p ∉ qs) → ps'.Nodup)
  | _, _, _, _, .nil, h => absurd h (Nat.not_lt_zero _)
  | _, _, ps, 0, .skip t, _ => ⟨qs ++ ps, .item r t, fun p hp => (List.mem_append.mp hp).elim .inr .inl, fun h1 h2 h3 => List.nodup_append.mpr ⟨h2, h1, fun a ha b hb z => h3 b hb (z ▸ ha)⟩⟩
  | _, _, _, 0, .item (qs := rs) (ps := ps) r' t, _ => ⟨qs ++ ps, .item r t, fun p hp => (List.mem_append.mp hp).elim .inr (fun z => .inl (List.mem_append_right _ z)), fun h1 h2 h3 => List.nodup_append.mpr ⟨h2, (List.nodup_append.mp h1).2.1, fun a ha b hb z => h3 b (List.mem_append_right _ hb) (z ▸ ha)⟩⟩
  | _, _, _, i + 1, .skip t, h => by
    obtain ⟨ps', a, b, c⟩ := Its.put r i t (by simpa using h)
    exact ⟨ps', .skip a, b, c⟩
  | _, _, _, i + 1, .item (qs := rs) (ps := ps) r' t, h => by
    obtain ⟨ps', a, b, c⟩ := Its.put r i t (by simpa using h)
    refine ⟨rs ++ ps', .item r' a, fun p hp => ?_, fun h1 h2 h3 => ?_⟩
    · rcases List.mem_append.mp hp with hp | hp
      · exact .inl (List.mem_append_left _ hp)
      · exact (b p hp).elim (fun z => .inl (List.mem_append_right _ z)) .inr
    · obtain ⟨n1, n2, n3⟩ := List.nodup_append.mp h1
      refine List.nodup_append.mpr ⟨n1, c n2 h2 fun p hp => h3 p (List.mem_append_right _ hp), fun a ha b' hb z => ?_⟩
      subst z
      rcases b a hb with z | z
      · exact n3 a ha a z rfl
      · exact h3 a (List.mem_append_left _ ha) z
theorem Its.pick : ∀ {σ : L2.St} {ρ : Env} {ps : List Addr} (i : Nat) {d : D}, Its K S H σ ρ ps → ρ[i]? = some (some d) → ∃ v qs ps', σ[i]? = some (some v) ∧ Rp K S H v d qs ∧ Its K S H σ (ρ.set i none) ps' ∧ (∀ p, p ∈ ps ↔ p ∈ ps' ∨ p ∈ qs) ∧ (ps.Nodup → ps'.Nodup ∧ qs.Nodup ∧ ∀ p ∈ ps', p ∉ qs)
  | _, _, _, _, _, .nil, h => by simp at h
  | _, _, _, 0, _, .skip t, h => by simp at h
  | _, _, _, 0, _, .item (qs := qs) (ps := ps) r t, h => by
    simp at h; subst h
    exact ⟨_, qs, ps, rfl, r, .skip t, fun p => by simp [or_comm], fun h => by
      obtain ⟨n1, n2, n3⟩ := List.nodup_append.mp h
      exact ⟨n2, n1, fun p hp hq => n3 p hq p hp rfl⟩⟩
  | _, _, _, i + 1, _, .skip t, h => by
    obtain ⟨v, qs, ps', a, b, c, d, e⟩ := Its.pick i t (by simpa using h)
    exact ⟨v, qs, ps', by simpa using a, b, .skip c, d, e⟩
  | _, _, _, i + 1, _, .item (qs := rs) (ps := ps) r t, h => by
    obtain ⟨v, qs, ps', a, b, c, d, e⟩ := Its.pick i t (by simpa using h)
    refine ⟨v, qs, rs ++ ps', by simpa using a, b, .item r c, fun p => ?_, fun hn => ?_⟩
    · simp only [List.mem_append, d p]
      constructor
      · rintro (h | h | h)
        · exact .inl (.inl h)
        · exact .inl (.inr h)
        · exact .inr h
      · rintro ((h | h) | h)
        · exact .inl h
        · exact .inr (.inl h)
        · exact .inr (.inr h)
    · obtain ⟨n1, n2, n3⟩ := List.nodup_append.mp hn
      obtain ⟨e1, e2, e3⟩ := e n2
      refine ⟨List.nodup_append.mpr ⟨n1, e1, fun x hx y hy z => n3 x hx y ((d y).mpr (.inl hy)) z⟩, e2, fun p hp hq => ?_⟩
      rcases List.mem_append.mp hp with hp | hp
      · exact n3 p hp p ((d p).mpr (.inr hq)) rfl
      · exact e3 p hp hq
end
abbrev Pins := Nat → Option V
structure Rl (K : PySem.W.Frag) (P : Pins) (S0 H0 S H : Hp) (σ : L2.St) (ρ : Env) : Prop where
  pn : ∀ i v, P i = some v → σ[i]? = some (some v)
  gr : Grow S0 H0 S H
  it : ∃ ps, Its K S H σ ρ ps ∧ ps.Nodup ∧ ∀ p ∈ ps, H0 p = none ∧ S p = none
section
variable {K : PySem.W.Frag} {P : Pins} {S0 H0 S H S' H' : Hp} {σ : L2.St} {ρ : Env}
theorem Rl.look (r : Rl K P S0 H0 S H σ ρ) : Look K S H σ ρ := let ⟨_, i, _⟩ := r.it; i.look
theorem Rl.grow (r : Rl K P S0 H0 S H σ ρ) (g : Grow S H S' H') : Rl K P S0 H0 S' H' σ ρ := by
  obtain ⟨ps, i, n, f⟩ := r.it
  refine ⟨r.pn, r.gr.trans g, ps, i.mono g.ss g.hh, n, fun p hp => ⟨(f p hp).1, ?_⟩⟩
  cases e : S' p with
  | none => rfl
  | some u =>
    obtain ⟨o, ho⟩ := i.there p hp
    have z := g.nw p u e (f p hp).2
    rw [ho] at z; cases z
theorem pn_set {P : Pins} {σ : L2.St} (h : ∀ i v, P i = some v → σ[i]? = some (some v)) {i : Nat} {x : Option V} (hp : P i = none) : ∀ j v, P j = some v → (σ.set i x)[j]? = some (some v) := fun j v hj => by
  have : i ≠ j := fun z => by rw [z, hj] at hp; cases hp
  rw [List.getElem?_set_ne this]
  exact h j v hj
theorem Rl.put (r : Rl K P S0 H0 S H σ ρ) (g : Grow S H S' H') {v : V} {d : D} {qs : List Addr} (f : Fresh H S' qs) (rp : Rp K S' H' v d qs) {i : Nat} (hi : i < ρ.length) (hp : P i = none) : Rl K P S0 H0 S' H' (σ.set i (some v)) (put ρ i d) := by
  have r' := r.grow g
  obtain ⟨ps, it, n, f0⟩ := r.it
  obtain ⟨ps', a, b, c⟩ := (it.mono g.ss g.hh).put rp i hi
  refine ⟨pn_set r.pn hp, r'.gr, ps', a, c n f.1 fun p hp hq => ?_, fun p hp => ?_⟩
  · obtain ⟨o, ho⟩ := it.there p hp
    have z := (f.2 p hq).1
    rw [ho] at z; cases z
  · rcases b p hp with h | h
    · refine ⟨(f0 p h).1, ?_⟩
      cases e : S' p with
      | none => rfl
      | some u =>
        obtain ⟨o, ho⟩ := it.there p h
        have z := g.nw p u e (f0 p h).2
        rw [ho] at z; cases z
    · exact ⟨none_back r.gr.hh (f.2 p h).1, (f.2 p h).2⟩
end
end G
set_option maxHeartbeats 1000000
namespace G
open PySem L2
abbrev Cl := String → Addr
def XR (cl : Cl) (S : Hp) (c : String) (fs : List D) (cls : Value) (dd : Option Addr) : Prop :=
  cls = .ref (cl c) ∧ match fs with
  | [] => dd = none
  | [.int l, .int p] => ∃ d, dd = some d ∧ S d = some (.xd [("place", .int p), ("line", .int l)])
  | _ => False
theorem xr_dict {cl : Cl} {S : Hp} {c : String} {fs : List D} {cls : Value} {dd : Option Addr} (x : XR cl S c fs cls dd) (b : Addr) (hb : dd = some b) : ∃ gs, S b = some (.xd gs) := by
  obtain ⟨_, x⟩ := x
  split at x
  · rw [x] at hb; cases hb
  · obtain ⟨d, h1, h2⟩ := x
    rw [h1] at hb; cases hb
    exact ⟨_, h2⟩
  · exact x.elim
theorem xr_at {cl : Cl} {S S' : Hp} {c : String} {fs : List D} {cls : Value} {dd : Option Addr} (x : XR cl S c fs cls dd) (h : ∀ b, dd = some b → S' b = S b) : XR cl S' c fs cls dd := by
  obtain ⟨x0, x⟩ := x
  refine ⟨x0, ?_⟩
  split at x
  · exact x
  · obtain ⟨d, h1, h2⟩ := x
    exact ⟨d, h1, by rw [h d h1]; exact h2⟩
  · exact x.elim
def PostE (cl : Cl) (K : PySem.W.Frag) (W : WX) (σ : L2.St) (S H : Hp) (r : Res D) (Q : VK) : Prop := match r with
  | .no => False
  | .ok d => ∀ v S' H' qs, Grow S H S' H' → Fresh H S' qs → Rp K S' H' v d qs → Q v H'
  | .ex c fs => ∀ S' H' cls dd, Grow S H S' H' → XR cl S' c fs cls dd → W cls dd σ H'
def PostO (cl : Cl) (K : PySem.W.Frag) (W : WX) (σ : L2.St) (S H : Hp) (r : Res D) (Q : VK) : Prop := match r with
  | .no => False
  | .ok d => ∀ v S' H' qs, Grow S H S' H' → Rp K S' H' v d qs → Q v H'
  | .ex c fs => ∀ S' H' cls dd, Grow S H S' H' → XR cl S' c fs cls dd → W cls dd σ H'
def PostA (cl : Cl) (K : PySem.W.Frag) (W : WX) (σ : L2.St) (S H : Hp) (r : Res (List D)) (Q : List V → Hp → Prop) : Prop := match r with
  | .no => False
  | .ok ds => ∀ vs S' H' qs, Grow S H S' H' → RpAll K S' H' vs ds qs → Q vs H'
  | .ex c fs => ∀ S' H' cls dd, Grow S H S' H' → XR cl S' c fs cls dd → W cls dd σ H'
def PostAE (cl : Cl) (K : PySem.W.Frag) (W : WX) (σ : L2.St) (S H : Hp) (r : Res (List D)) (Q : List V → Hp → Prop) : Prop := match r with
  | .no => False
  | .ok ds => ∀ vs S' H' qs, Grow S H S' H' → Fresh H S' qs → RpAll K S' H' vs ds qs → Q vs H'
  | .ex c fs => ∀ S' H' cls dd, Grow S H S' H' → XR cl S' c fs cls dd → W cls dd σ H'
def PostT (cl : Cl) (K : PySem.W.Frag) (W : WX) (σ : L2.St) (S H : Hp) (r : Res D) (Q : Bool → Hp → Prop) : Prop := match r with
  | .ok (.bl b) => ∀ S' H', Grow S H S' H' → Q b H'
  | .ex c fs => ∀ S' H' cls dd, Grow S H S' H' → XR cl S' c fs cls dd → W cls dd σ H'
  | _ => False
structure DE (cl : Cl) (X : Cx) (W : WX) (e : Expr) (f : E) : Prop where
  pf : ∃ t : TE, PE X e t ∧ ∀ (σ : L2.St) (ρ : Env) (S H : Hp) (Q : VK), Look X.K S H σ ρ → Same S H → PostE cl X.K W σ S H (f ρ) Q → t σ H Q
structure DO (cl : Cl) (X : Cx) (W : WX) (e : Expr) (f : E) : Prop where
  pf : ∃ t : TE, PE X e t ∧ ∀ (σ : L2.St) (ρ : Env) (S H : Hp) (Q : VK), Look X.K S H σ ρ → Same S H → PostO cl X.K W σ S H (f ρ) Q → t σ H Q
structure DA (cl : Cl) (X : Cx) (W : WX) (es : List Expr) (fs : List E) : Prop where
  pf : ∃ t : TA, PA X es t ∧ ∀ (σ : L2.St) (ρ : Env) (S H : Hp) (Q : List V → Hp → Prop), Look X.K S H σ ρ → Same S H → PostA cl X.K W σ S H (eArgs fs ρ) Q → t σ H Q
structure DAE (cl : Cl) (X : Cx) (W : WX) (es : List Expr) (fs : List E) : Prop where
  pf : ∃ t : TA, PA X es t ∧ ∀ (σ : L2.St) (ρ : Env) (S H : Hp) (Q : List V → Hp → Prop), Look X.K S H σ ρ → Same S H → PostAE cl X.K W σ S H (eArgs fs ρ) Q → t σ H Q
structure DT (cl : Cl) (X : Cx) (W : WX) (e : Expr) (f : E) : Prop where
  pf : ∃ t : TT, PT X e t ∧ ∀ (σ : L2.St) (ρ : Env) (S H : Hp) (Q : Bool → Hp → Prop), Look X.K S H σ ρ → Same S H → PostT cl X.K W σ S H (f ρ) Q → t σ H Q
structure DW (cl : Cl) (X : Cx) (W : WX) (e : Expr) (f : E) : Prop where
  pf : ∃ t : TT, PW X e t ∧ ∀ (σ : L2.St) (ρ : Env) (S H : Hp) (Q : Bool → Hp → Prop), Look X.K S H σ ρ → Same S H → PostT cl X.K W σ S H (f ρ) Q → t σ H Q
section
variable {cl : Cl} {K : PySem.W.Frag} {W : WX} {σ : L2.St} {S H S1 H1 : Hp} {r : Res D} {Q Q' : VK}
theorem PostE.on (g : Grow S H S1 H1) (h : PostE cl K W σ S H r Q) : PostE cl K W σ S1 H1 r Q := by
  cases r with
  | no => exact h
  | ok d => exact fun v S' H' qs g' f rp => h v S' H' qs (g.trans g') (f.back g.hh) rp
  | ex c fs => exact fun S' H' cls dd g' x => h S' H' cls dd (g.trans g') x
theorem PostT.on {Q : Bool → Hp → Prop} (g : Grow S H S1 H1) (h : PostT cl K W σ S H r Q) : PostT cl K W σ S1 H1 r Q := by
  cases r with
  | no => exact h
  | ok d =>
    cases d with
    | bl b => exact fun S' H' g' => h S' H' (g.trans g')
    | _ => exact h
  | ex c fs => exact fun S' H' cls dd g' x => h S' H' cls dd (g.trans g') x
theorem PostO.imp (h : PostO cl K W σ S H r Q) (i : ∀ v H, Q v H → Q' v H) : PostO cl K W σ S H r Q' := by
  cases r with
  | no => exact h
  | ok d => exact fun v S' H' qs g rp => i _ _ (h v S' H' qs g rp)
  | ex c fs => exact h
theorem PostO.toE (h : PostO cl K W σ S H r Q) : PostE cl K W σ S H r Q := by
  cases r with
  | no => exact h
  | ok d => exact fun v S' H' qs g _ rp => h v S' H' qs g rp
  | ex c fs => exact h
theorem post_bind {g : D → Res D} (h : PostE cl K W σ S H (r.bind g) Q) :
    PostO cl K W σ S H r (fun v H1 => ∃ d S1 qs, r = .ok d ∧ Grow S H S1 H1 ∧ Rp K S1 H1 v d qs ∧ PostE cl K W σ S1 H1 (g d) Q) := by
  cases r with
  | no => exact h
  | ok d => exact fun v S' H' qs g' rp => ⟨d, S', qs, rfl, g', rp, PostE.on g' h⟩
  | ex c fs => exact h
theorem post_bindT {g : D → Res D} {Q : Bool → Hp → Prop} (h : PostT cl K W σ S H (r.bind g) Q) :
    PostO cl K W σ S H r (fun v H1 => ∃ d S1 qs, r = .ok d ∧ Grow S H S1 H1 ∧ Rp K S1 H1 v d qs ∧ PostT cl K W σ S1 H1 (g d) Q) := by
  cases r with
  | no => exact h
  | ok d => exact fun v S' H' qs g' rp => ⟨d, S', qs, rfl, g', rp, PostT.on g' h⟩
  | ex c fs => exact h
theorem post_testT {g : D → Res D} {Q : Bool → Hp → Prop} (hg : ∀ d, (∀ b, d ≠ .bl b) → g d = .no) (h : PostT cl K W σ S H (r.bind g) Q) :
    PostT cl K W σ S H r (fun b H1 => ∃ S1, Grow S H S1 H1 ∧ PostT cl K W σ S1 H1 (g (.bl b)) Q) := by
  cases r with
  | no => exact h
  | ok d =>
    cases d with
    | bl b => exact fun S' H' g' => ⟨S', g', PostT.on g' h⟩
    | _ => 
      have h : PostT cl K W σ S H (g _) Q := h
      rw [hg _ (by intro b z; cases z)] at h
      exact h
  | ex c fs => exact h
end
section
variable {cl : Cl} {X : Cx} {W : WX} {e a b c : Expr} {f g h : E} {pos : Pos}
theorem DE.o (h : DE cl X W e f) : DO cl X W e f := let ⟨t, p, q⟩ := h.pf; ⟨t, p, fun σ ρ S H Q l s z => q σ ρ S H Q l s z.toE⟩
theorem look_get {K : PySem.W.Frag} {S H : Hp} {σ : L2.St} {ρ : Env} {i : Nat} {d : D} (l : Look K S H σ ρ) (h : get ρ i = .ok d) : ∃ v qs, σ[i]? = some (some v) ∧ Rp K S H v d qs := by
  unfold get at h
  split at h
  · rename_i d' e
    cases h
    exact l.2 i _ e
  · cases h
theorem get_cases (ρ : Env) (i : Nat) : get ρ i = .no ∨ ∃ d, get ρ i = .ok d := by
  unfold get
  split
  · exact .inr ⟨_, rfl⟩
  · exact .inl rfl
theorem do_v (i : Nat) (p : PE X e (tVar i)) : DO cl X W e (eO i) := ⟨tVar i, p, fun σ ρ S H Q l s z => by
  unfold eO at z
  rcases get_cases ρ i with e | ⟨d, e⟩
  · rw [e] at z; exact z.elim
  · rw [e] at z
    obtain ⟨v, qs, h1, h2⟩ := look_get l e
    exact ⟨v, h1, z v S H qs (Grow.refl s) h2⟩⟩
theorem de_v (i : Nat) (p : PE X e (tVar i)) : DE cl X W e (eV i) := ⟨tVar i, p, fun σ ρ S H Q l s z => by
  unfold eV at z
  rcases get_cases ρ i with e | ⟨d, e⟩
  · rw [e] at z; exact z.elim
  · rw [e] at z
    obtain ⟨v, qs, h1, h2⟩ := look_get l e
    refine ⟨v, h1, ?_⟩
    cases k : d.sh with
    | false => simp [Res.bind, k, PostE] at z
    | true =>
      simp only [Res.bind, k, if_true, PostE] at z
      exact z v S H [] (Grow.refl s) Fresh.nil ((h2.sh k).2 H)⟩
theorem de_c {d : D} {v : V} (p : PE X e (tC v)) (r : ∀ S H, Rp X.K S H v d []) : DE cl X W e (eC d) := ⟨tC v, p, fun σ ρ S H Q l s z => z v S H [] (Grow.refl s) Fresh.nil (r S H)⟩
theorem de_int {i j} : DE cl X W (.Constant (.int i) j pos) (eC (.int i)) := de_c pe_int fun _ _ => .int i
theorem de_bl {b j} : DE cl X W (.Constant (.bool b) j pos) (eC (.bl b)) := de_c pe_bl fun _ _ => .bl b
theorem de_non {j} : DE cl X W (.Constant .none j pos) (eC .non) := de_c pe_non fun _ _ => .non
theorem de_str {x : Str} {j} (s : Tx) (h : x = tS s) (k : s.all (fun c => decide (c < 0x110000)) = true) : DE cl X W (.Constant (.str x) j pos) (eC (.str s)) := by
  subst h
  exact de_c pe_str fun _ _ => .str s (by simpa using k)
theorem de_frz (h : DE cl X W e f) : DE cl X W e (eFrz f) := by
  obtain ⟨t, p, q⟩ := h.pf
  refine ⟨t, p, fun σ ρ S H Q l s z => q σ ρ S H Q l s ?_⟩
  unfold eFrz at z
  cases k : f ρ with
  | no => rw [k] at z; exact z
  | ex c fs => rw [k] at z; exact z
  | ok d =>
    rw [k] at z
    intro v S' H' qs g fr rp
    refine z v (fun a => if a ∈ qs then H' a else S' a) H' [] ⟨g.hh, ?_, ?_, ?_⟩ Fresh.nil (rp.frz ?_ ?_ H')
    · intro b o hb
      have hb' := g.ss b o hb
      have : b ∉ qs := fun z => by rw [(fr.2 b z).2] at hb'; cases hb'
      simp only [this, if_false]
      exact hb'
    · intro b o hb
      by_cases hq : b ∈ qs
      · simpa only [hq, if_true] using hb
      · simp only [hq, if_false] at hb
        exact g.sh b o hb
    · intro b o hb hn
      by_cases hq : b ∈ qs
      · exact (fr.2 b hq).1
      · simp only [hq, if_false] at hb
        exact g.nw b o hb hn
    · intro b o hb
      have : b ∉ qs := fun z => by rw [(fr.2 b z).2] at hb; cases hb
      simp only [this, if_false]
      exact hb
    · intro p hp o ho
      simp only [hp, if_true]
      exact ho
def Op1 (X : Cx) (r : V → Hp → VK → Prop) (f : D → Option D) : Prop := ∀ (S H : Hp) (x : V) (dx d : D) (ps : List Addr) (Q : VK), Same S H → Rp X.K S H x dx ps → f dx = some d →
  (∀ v S' H' rs, Grow S H S' H' → Fresh H S' rs → Rp X.K S' H' v d rs → Q v H') → r x H Q
def Op2 (X : Cx) (r : R2) (f : D → D → Option D) : Prop := ∀ (S H : Hp) (x y : V) (dx dy d : D) (ps qs : List Addr) (Q : VK), Same S H → Rp X.K S H x dx ps → Rp X.K S H y dy qs → f dx dy = some d →
  (∀ v S' H' rs, Grow S H S' H' → Fresh H S' rs → Rp X.K S' H' v d rs → Q v H') → r x y H Q
theorem de_1 {r : V → Hp → VK → Prop} {F : D → Option D} (p : ∀ ta, PE X a ta → PE X e (tUn r ta)) (o : Op1 X r F) (ha : DO cl X W a f) : DE cl X W e (e1 F f) := by
  obtain ⟨ta, pa, qa⟩ := ha.pf
  refine ⟨_, p ta pa, fun σ ρ S H Q l s z => ?_⟩
  refine qa σ ρ S H _ l s ((post_bind z).imp ?_)
  rintro v H1 ⟨d, S1, qs, e, g, rp, z1⟩
  cases k : F d with
  | none => rw [k] at z1; exact z1.elim
  | some d' =>
    rw [k] at z1
    exact o S1 H1 v d d' qs Q g.sh rp k z1
theorem de_2 {r : R2} {F : D → D → Option D} (p : ∀ ta tb, PE X a ta → PE X b tb → PE X e (tOp r ta tb)) (o : Op2 X r F) (ha : DO cl X W a f) (hb : DO cl X W b g) : DE cl X W e (e2 F f g) := by
  obtain ⟨ta, pa, qa⟩ := ha.pf
  obtain ⟨tb, pb, qb⟩ := hb.pf
  refine ⟨_, p ta tb pa pb, fun σ ρ S H Q l s z => ?_⟩
  refine qa σ ρ S H _ l s ((post_bind z).imp ?_)
  rintro v H1 ⟨d, S1, qs, e, g1, rp, z1⟩
  refine qb σ ρ S1 H1 _ (l.mono g1) g1.sh ((post_bind z1).imp ?_)
  rintro u H2 ⟨d2, S2, rs, e2, g2, rp2, z2⟩
  cases k : F d d2 with
  | none => rw [k] at z2; exact z2.elim
  | some d' =>
    rw [k] at z2
    exact o S2 H2 v u d d2 d' qs rs Q g2.sh (rp.mono g2.ss g2.hh) rp2 k z2
theorem de_bin {op : Operator} {r : R2} {F : D → D → Option D} (ho : OpR X (binaryOp op) r) (o : Op2 X r F) (ha : DO cl X W a f) (hb : DO cl X W b g) : DE cl X W (.BinOp a op b pos) (e2 F f g) := de_2 (fun _ _ => pe_op ho) o ha hb
theorem de_cmp {op : CmpOp} {r : R2} {F : D → D → Option D} (ho : OpR X (compareOp op) r) (o : Op2 X r F) (hm : behindInMarks op b = false) (ha : DO cl X W a f) (hb : DO cl X W b g) : DE cl X W (.Compare a [op] [b] pos) (e2 F f g) := de_2 (fun _ _ h1 h2 => pe_cmpR ho h1 h2 hm) o ha hb
theorem de_un {op : UnaryOp} {r : V → Hp → VK → Prop} {F : D → Option D} (ho : UnR X (unaryOp op) r) (o : Op1 X r F) (ha : DO cl X W a f) : DE cl X W (.UnaryOp op a pos) (e1 F f) := de_1 (fun _ => pe_un ho) o ha
theorem de_one {op} (h : DE cl X W a f) : DE cl X W (.BoolOp op [a] pos) f := let ⟨t, p, q⟩ := h.pf; ⟨t, pe_one p, q⟩
theorem de_and {rest : List Expr} (ha : DE cl X W a f) (hb : DE cl X W (.BoolOp .And (b :: rest) pos) g) : DE cl X W (.BoolOp .And (a :: b :: rest) pos) (eAnd f g) := by
  obtain ⟨ta, pa, qa⟩ := ha.pf
  obtain ⟨tb, pb, qb⟩ := hb.pf
  refine ⟨_, pe_and pa pb, fun σ ρ S H Q l s z => ?_⟩
  refine qa σ ρ S H _ l s (((post_bind z).imp ?_).toE)
  rintro v H1 ⟨d, S1, qs, e, g1, rp, z1⟩
  cases d with
  | bl k =>
    cases rp
    refine ⟨k, rfl, ?_⟩
    cases k with
    | true => exact qb σ ρ S1 H1 Q (l.mono g1) g1.sh z1
    | false => exact z1 _ S1 H1 [] (Grow.refl g1.sh) Fresh.nil (.bl false)
  | _ => exact z1.elim
theorem de_or {rest : List Expr} (ha : DE cl X W a f) (hb : DE cl X W (.BoolOp .Or (b :: rest) pos) g) : DE cl X W (.BoolOp .Or (a :: b :: rest) pos) (eOr f g) := by
  obtain ⟨ta, pa, qa⟩ := ha.pf
  obtain ⟨tb, pb, qb⟩ := hb.pf
  refine ⟨_, pe_or pa pb, fun σ ρ S H Q l s z => ?_⟩
  refine qa σ ρ S H _ l s (((post_bind z).imp ?_).toE)
  rintro v H1 ⟨d, S1, qs, e, g1, rp, z1⟩
  cases d with
  | bl k =>
    cases rp
    refine ⟨k, rfl, ?_⟩
    cases k with
    | false => exact qb σ ρ S1 H1 Q (l.mono g1) g1.sh z1
    | true => exact z1 _ S1 H1 [] (Grow.refl g1.sh) Fresh.nil (.bl true)
  | _ => exact z1.elim
theorem de_not (ha : DE cl X W a f) : DE cl X W (.UnaryOp .Not a pos) (eNot f) := by
  obtain ⟨ta, pa, qa⟩ := ha.pf
  refine ⟨_, pe_not pa, fun σ ρ S H Q l s z => ?_⟩
  refine qa σ ρ S H _ l s (((post_bind z).imp ?_).toE)
  rintro v H1 ⟨d, S1, qs, e, g1, rp, z1⟩
  cases d with
  | bl k =>
    cases rp
    exact ⟨k, rfl, z1 _ S1 H1 [] (Grow.refl g1.sh) Fresh.nil (.bl _)⟩
  | _ => exact z1.elim
theorem dt_val (h : DE cl X W e f) (he : ∀ whole, isTrue e X.env whole = (do let v ← whole; standAt e.pos; holding [v] (truthy v)) := by intro _; rfl) : DT cl X W e f := by
  obtain ⟨t, p, q⟩ := h.pf
  refine ⟨_, pt_val p he, fun σ ρ S H Q l s z => q σ ρ S H _ l s ?_⟩
  cases k : f ρ with
  | no => rw [k] at z; exact z
  | ex c fs => rw [k] at z; exact z
  | ok d =>
    rw [k] at z
    cases d with
    | bl b => exact fun v S' H' qs g _ rp => by cases rp; exact ⟨b, rfl, z S' H' g⟩
    | _ => exact z.elim
theorem dt_cmp {op : CmpOp} {r : R2} {F : D → D → Option D} (ho : OpR X (compareOp op) r) (o : Op2 X r F) (hm : behindInMarks op b = false) (ha : DO cl X W a f) (hb : DO cl X W b g) : DT cl X W (.Compare a [op] [b] pos) (e2 F f g) := by
  obtain ⟨ta, pa, qa⟩ := ha.pf
  obtain ⟨tb, pb, qb⟩ := hb.pf
  refine ⟨_, pt_cmpR ho pa pb hm, fun σ ρ S H Q l s z => ?_⟩
  refine qa σ ρ S H _ l s ((post_bindT z).imp ?_)
  rintro v H1 ⟨d, S1, qs, e, g1, rp, z1⟩
  refine qb σ ρ S1 H1 _ (l.mono g1) g1.sh ((post_bindT z1).imp ?_)
  rintro u H2 ⟨d2, S2, rs, e2, g2, rp2, z2⟩
  cases k : F d d2 with
  | none => rw [k] at z2; exact z2.elim
  | some d' =>
    rw [k] at z2
    refine o S2 H2 v u d d2 d' qs rs _ g2.sh (rp.mono g2.ss g2.hh) rp2 k ?_
    cases d' with
    | bl b => exact fun v S' H' qs g _ rp => by cases rp; exact ⟨b, rfl, z2 S' H' g⟩
    | _ => exact z2.elim
theorem DW.t (h : DW cl X W e f) : DT cl X W e f := let ⟨t, p, q⟩ := h.pf; ⟨t, p.pt, q⟩
theorem dw_and1 (h : DT cl X W a f) : DW cl X W (.BoolOp .And [a] pos) f := let ⟨t, p, q⟩ := h.pf; ⟨t, pw_and1 p, q⟩
theorem dw_or1 (h : DT cl X W a f) : DW cl X W (.BoolOp .Or [a] pos) f := let ⟨t, p, q⟩ := h.pf; ⟨t, pw_or1 p, q⟩
theorem dw_and {rest : List Expr} (ha : DT cl X W a f) (hb : DW cl X W (.BoolOp .And (b :: rest) pos) g) : DW cl X W (.BoolOp .And (a :: b :: rest) pos) (eAnd f g) := by
  obtain ⟨ta, pa, qa⟩ := ha.pf
  obtain ⟨tb, pb, qb⟩ := hb.pf
  refine ⟨_, pw_and pa pb, fun σ ρ S H Q l s z => ?_⟩
  have z' := post_testT (by intro d hd; cases d <;> first | rfl | exact absurd rfl (hd _)) z
  refine qa σ ρ S H _ l s ?_
  cases k : f ρ with
  | no => rw [k] at z'; exact z'
  | ex c fs => rw [k] at z'; exact z'
  | ok d =>
    rw [k] at z'
    cases d with
    | bl b =>
      intro S' H' g'
      obtain ⟨S1, g1, z1⟩ := z' S' H' g'
      cases b with
      | true => exact qb σ ρ S1 H' Q (l.mono g1) g1.sh z1
      | false => exact z1 S1 H' (Grow.refl g1.sh)
    | _ => exact z'.elim
theorem dw_or {rest : List Expr} (ha : DT cl X W a f) (hb : DW cl X W (.BoolOp .Or (b :: rest) pos) g) : DW cl X W (.BoolOp .Or (a :: b :: rest) pos) (eOr f g) := by
  obtain ⟨ta, pa, qa⟩ := ha.pf
  obtain ⟨tb, pb, qb⟩ := hb.pf
  refine ⟨_, pw_or pa pb, fun σ ρ S H Q l s z => ?_⟩
  have z' := post_testT (by intro d hd; cases d <;> first | rfl | exact absurd rfl (hd _)) z
  refine qa σ ρ S H _ l s ?_
  cases k : f ρ with
  | no => rw [k] at z'; exact z'
  | ex c fs => rw [k] at z'; exact z'
  | ok d =>
    rw [k] at z'
    cases d with
    | bl b =>
      intro S' H' g'
      obtain ⟨S1, g1, z1⟩ := z' S' H' g'
      cases b with
      | false => exact qb σ ρ S1 H' Q (l.mono g1) g1.sh z1
      | true => exact z1 S1 H' (Grow.refl g1.sh)
    | _ => exact z'.elim
theorem dt_not (ha : DT cl X W a f) : DT cl X W (.UnaryOp .Not a pos) (eNot f) := by
  obtain ⟨ta, pa, qa⟩ := ha.pf
  refine ⟨_, pt_not pa, fun σ ρ S H Q l s z => ?_⟩
  have z' := post_testT (by intro d hd; cases d <;> first | rfl | exact absurd rfl (hd _)) z
  refine qa σ ρ S H _ l s ?_
  cases k : f ρ with
  | no => rw [k] at z'; exact z'
  | ex c fs => rw [k] at z'; exact z'
  | ok d =>
    rw [k] at z'
    cases d with
    | bl b =>
      intro S' H' g'
      obtain ⟨S1, g1, z1⟩ := z' S' H' g'
      exact z1 S1 H' (Grow.refl g1.sh)
    | _ => exact z'.elim
end
end G
set_option maxHeartbeats 1000000
namespace G
open PySem L2
theorem line_eq : (sizeLine : Nat) = LINE := by decide
section
variable {K : PySem.W.Frag} {S H : Hp} {v : V} {ds : List D} {ps : List Addr} {o : Bool}
theorem Rp.lst (h : Rp K S H v (.lst o ds) ps) (s : Same S H) : ∃ a vs qs, v = .ref a ∧ H a = some (.lst vs) ∧ RpAll K S H vs ds qs := by
  cases h with
  | lstS q r z => exact ⟨_, _, _, rfl, s _ _ q, r⟩
  | lstO q r => exact ⟨_, _, _, rfl, q, r⟩
theorem Rp.tup (h : Rp K S H v (.tup o ds) ps) (s : Same S H) : ∃ a vs qs, v = .ref a ∧ SqT K H a vs ∧ RpAll K S H vs ds qs := by
  cases h with
  | tupS q r z => exact ⟨_, _, _, rfl, sqt_mono s q, r⟩
  | tupO q r => exact ⟨_, _, _, rfl, .inl (.inl q), r⟩
theorem newL {vs : List V} {Q : VK} {p : Addr} (s : Same S H) (ra : RpAll K S H vs ds ps) (sh : shs ds = true) (hp : H p = none)
    (k : ∀ v S' H' rs, Grow S H S' H' → Fresh H S' rs → Rp K S' H' v (.lst true ds) rs → Q v H') : Q (.ref p) (upd H p (.lst vs)) := by
  refine k (.ref p) S _ [p] ((Grow.refl s).more (same_new hp)) ⟨by simp, fun q hq => ?_⟩ (.lstO upd_same ((ra.sh sh).2 _))
  have e : q = p := by simpa using hq
  subst e
  exact ⟨hp, none_back s hp⟩
theorem newV {Q : VK} {d : D} (s : Same S H) (r : Rp K S H v d []) (k : ∀ v S' H' rs, Grow S H S' H' → Fresh H S' rs → Rp K S' H' v d rs → Q v H') : Q v H := k v S H [] (Grow.refl s) Fresh.nil r
end
theorem tS_len (s : Tx) : (tS s).length = s.length := by simp [tS, Str.length]
theorem tS_app (a b : Tx) : tS a ++ tS b = tS (a ++ b) := TL.ext_tl (by rw [TL.tl_append]; simp [tS])
theorem tS_inj {a b : Tx} (h : tS a = tS b) : a = b := by
  have := congrArg (fun x : Str => x.cps.toList) h
  simpa [tS] using this
section
variable {X : Cx}
def rAddD : R2 := fun x y H Q => rI0 (fun i j => .int (i + j)) x y H Q ∨ ((∃ i j, x = .str i ∧ y = .str j ∧ i.length + j.length ≤ sizeLine ∧ Q (.str (i ++ j)) H) ∨ rCat x y H Q)
theorem op_addD : OpR X (binaryOp .Add) rAddD := op_add.or (op_add_str.or op_cat)
theorem o_add : Op2 X rAddD fAdd := by
  intro S H x y dx dy d ps qs Q s rx ry e k
  unfold fAdd at e
  split at e
  · cases rx; cases ry; cases e
    exact .inl ⟨_, _, rfl, rfl, newV s (.int _) k⟩
  · split at e
    · rename_i a b h
      cases rx with | str _ ha => cases ry with | str _ hb =>
      cases e
      refine .inr (.inl ⟨_, _, rfl, rfl, by rw [tS_len, tS_len, line_eq]; exact h, ?_⟩)
      rw [tS_app]
      exact newV s (.str _ fun c hc => (List.mem_append.mp hc).elim (ha c) (hb c)) k
    · cases e
  · split at e
    · rename_i h
      cases e
      simp only [Bool.and_eq_true, decide_eq_true_eq] at h
      obtain ⟨l1, v1, q1, rfl, h1, r1⟩ := rx.lst s
      obtain ⟨l2, v2, q2, rfl, h2, r2⟩ := ry.lst s
      refine .inr (.inr ⟨l1, l2, v1, v2, rfl, rfl, h1, h2, ?_, fun p hp => ?_⟩)
      · rw [r1.length, r2.length, line_eq]; exact h.1.1
      · exact newL s (r1.append r2) (shs_append h.1.2 h.2) hp k
    · cases e
  · cases e
theorem o_I0 {g : Int → Int → V} {F : D → D → Option D} (hF : ∀ a b d, F a b = some d → ∃ i j, a = .int i ∧ b = .int j ∧ ∀ S H, Rp X.K S H (g i j) d []) : Op2 X (rI0 g) F := by
  intro S H x y dx dy d ps qs Q s rx ry e k
  obtain ⟨i, j, rfl, rfl, h⟩ := hF _ _ _ e
  cases rx; cases ry
  exact ⟨i, j, rfl, rfl, newV s (h S H) k⟩
theorem o_I {C : Int → Int → Prop} {g : Int → Int → V} {F : D → D → Option D} (hF : ∀ a b d, F a b = some d → ∃ i j, a = .int i ∧ b = .int j ∧ C i j ∧ ∀ S H, Rp X.K S H (g i j) d []) : Op2 X (rI C g) F := by
  intro S H x y dx dy d ps qs Q s rx ry e k
  obtain ⟨i, j, rfl, rfl, c, h⟩ := hF _ _ _ e
  cases rx; cases ry
  exact ⟨i, j, rfl, rfl, c, newV s (h S H) k⟩
theorem o_sub : Op2 X (rI0 fun i j => .int (i - j)) fSub := o_I0 fun a b d e => by
  unfold fSub at e
  split at e
  · cases e; exact ⟨_, _, rfl, rfl, fun _ _ => .int _⟩
  · cases e
theorem o_div : Op2 X (rI CDiv fun i j => .int (i / j)) fDiv := o_I fun a b d e => by
  unfold fDiv at e
  split at e
  · split at e
    · rename_i h
      simp only [Bool.and_eq_true, decide_eq_true_eq] at h
      cases e; exact ⟨_, _, rfl, rfl, h, fun _ _ => .int _⟩
    · cases e
  · cases e
theorem o_mod : Op2 X (rI (fun _ j => 0 < j) fun i j => .int (i % j)) fMod := o_I fun a b d e => by
  unfold fMod at e
  split at e
  · split at e
    · rename_i h
      simp only [decide_eq_true_eq] at h
      cases e; exact ⟨_, _, rfl, rfl, h, fun _ _ => .int _⟩
    · cases e
  · cases e
theorem o_shl : Op2 X (rI CPow fun i j => .int (i * 2 ^ j.toNat)) fShl := o_I fun a b d e => by
  unfold fShl at e
  split at e
  · split at e
    · rename_i h
      simp only [Bool.and_eq_true, decide_eq_true_eq] at h
      cases e; exact ⟨_, _, rfl, rfl, ⟨h.1.1, h.1.2, h.2⟩, fun _ _ => .int _⟩
    · cases e
  · cases e
theorem o_shr : Op2 X (rI (fun _ j => 0 ≤ j) fun i j => .int (i / 2 ^ j.toNat)) fShr := o_I fun a b d e => by
  unfold fShr at e
  split at e
  · split at e
    · rename_i h
      simp only [decide_eq_true_eq] at h
      cases e; exact ⟨_, _, rfl, rfl, h, fun _ _ => .int _⟩
    · cases e
  · cases e
theorem o_band : Op2 X (rI0 fun i j => .int (Builtin.bitAnd i j)) fBand := o_I0 fun a b d e => by
  unfold fBand at e
  split at e
  · split at e
    · rename_i i j h
      simp only [Bool.and_eq_true, decide_eq_true_eq] at h
      cases e
      refine ⟨_, _, rfl, rfl, fun _ _ => ?_⟩
      rw [PyProof.Rows.bitAnd_pp h.1 h.2]
      exact .int _
    · cases e
  · cases e
theorem o_bor : Op2 X (rI0 fun i j => .int (Builtin.bitOr i j)) fBor := o_I0 fun a b d e => by
  unfold fBor at e
  split at e
  · split at e
    · rename_i i j h
      simp only [Bool.and_eq_true, decide_eq_true_eq] at h
      cases e
      refine ⟨_, _, rfl, rfl, fun _ _ => ?_⟩
      rw [Bits.bitOr_pp h.1 h.2]
      exact .int _
    · cases e
  · cases e
theorem o_lt : Op2 X (rI0 fun i j => .bl (decide (i < j))) fLt := o_I0 fun a b d e => by
  unfold fLt at e
  split at e
  · cases e; exact ⟨_, _, rfl, rfl, fun _ _ => .bl _⟩
  · cases e
theorem o_le : Op2 X (rI0 fun i j => .bl (decide (i ≤ j))) fLe := o_I0 fun a b d e => by
  unfold fLe at e
  split at e
  · cases e; exact ⟨_, _, rfl, rfl, fun _ _ => .bl _⟩
  · cases e
theorem o_gt : Op2 X (rI0 fun i j => .bl (decide (j < i))) fGt := o_I0 fun a b d e => by
  unfold fGt at e
  split at e
  · cases e; exact ⟨_, _, rfl, rfl, fun _ _ => .bl _⟩
  · cases e
theorem o_ge : Op2 X (rI0 fun i j => .bl (decide (j ≤ i))) fGe := o_I0 fun a b d e => by
  unfold fGe at e
  split at e
  · cases e; exact ⟨_, _, rfl, rfl, fun _ _ => .bl _⟩
  · cases e
theorem o_neg : Op1 X (rU fun i => .int (-i)) fNeg := by
  intro S H x dx d ps Q s rx e k
  unfold fNeg at e
  split at e
  · cases rx; cases e
    exact ⟨_, rfl, newV s (.int _) k⟩
  · cases e
def rRepS : R2 := fun x y H Q => ∃ z k, x = .str z ∧ y = .int k ∧ -(2 ^ 63) ≤ k ∧ k < 2 ^ 63 ∧ z.length * k.toNat ≤ sizeLine ∧ Q (.str ⟨(List.replicate k.toNat z.cps.toList).flatten.toArray⟩) H
end
end G
set_option maxHeartbeats 1000000
namespace G
open PySem L2
section
variable {X : Cx}
theorem fold_app (k : Nat) (a : Array Nat) : ∀ acc : Array Nat, (List.replicate k a).foldl (· ++ ·) acc = ⟨acc.toList ++ (List.replicate k a.toList).flatten⟩ := by
  induction k with
  | zero => intro acc; simp
  | succ k ih =>
    intro acc
    rw [List.replicate_succ, List.foldl_cons, ih, List.replicate_succ, List.flatten_cons, Array.toList_append, List.append_assoc]
theorem op_repS : OpR X (binaryOp .Mult) rRepS := by
  intro pins s σ H x y v u Q I rx ry h
  obtain ⟨z, k, rfl, rfl, h1, h2, hz, q⟩ := h
  obtain ⟨t, rfl⟩ := rx
  obtain ⟨t', rfl⟩ := ry
  have hk : ¬ k < 1 → (z.length * k.toNat : Nat) ≤ sizeLine := fun _ => hz
  refine PySem.P.mul_str ?_ ?_ ?_ ?_
  · rw [decide_eq_false (by omega), decide_eq_false (by omega)]; rfl
  · intro h1 h3 h4
    have e : ((z.length * k.toNat : Nat) : Int) ≤ 16777216 := by
      have := hz; rw [sizeLine_eq] at this; omega
    have hk0 : (0 : Int) < k := by omega
    have h5 : ((z.length : Nat) : Int) * k ≤ 16777216 := by
      rw [Int.natCast_mul, Int.toNat_of_nonneg (by omega)] at e
      exact e
    have h6 : ((z.length : Nat) : Int) ≤ (2 ^ 63 - 1) / k := (Int.le_ediv_iff_mul_le hk0).mpr (Int.le_trans h5 (by decide))
    omega
  · intro h1 h3
    unfold Builtin.Str.tooLong
    exact decide_eq_false (Nat.not_lt.mpr hz)
  · by_cases h3 : k < 1
    · rw [if_pos h3]
      refine ⟨by decide, ⟨.str Str.empty, H, I.tok _, ⟨_, rfl⟩, ?_⟩⟩
      have e : k.toNat = 0 := by omega
      rw [e] at q
      exact q
    · rw [if_neg h3]
      by_cases h4 : (k == 1 || z.length == 0) = true
      · rw [if_pos h4]
        refine ⟨.str z, H, I, ⟨_, rfl⟩, ?_⟩
        have e : (⟨(List.replicate k.toNat z.cps.toList).flatten.toArray⟩ : Str) = z := TL.ext_tl (by
          show (List.replicate k.toNat z.cps.toList).flatten = z.cps.toList
          simp only [Bool.or_eq_true, beq_iff_eq] at h4
          rcases h4 with h4 | h4
          · subst h4; simp
          · have : z.cps.toList = [] := by
              have : z.cps.size = 0 := h4
              simpa using this
            rw [this]; simp)
        rw [e] at q
        exact q
      · rw [if_neg h4]
        have e : (⟨(List.replicate k.toNat z.cps).foldl (· ++ ·) #[]⟩ : Str) = ⟨(List.replicate k.toNat z.cps.toList).flatten.toArray⟩ := by
          rw [fold_app]; simp
        rw [e]
        refine ⟨?_, ⟨.str _, H, I.tok _, ⟨_, rfl⟩, q⟩⟩
        show (List.replicate k.toNat z.cps.toList).flatten.toArray.size ≤ sizeLine
        simp only [List.size_toArray, List.length_flatten, List.map_replicate, List.sum_replicate_nat, Array.length_toList]
        rw [Nat.mul_comm]; exact hz
def rMulD : R2 := fun x y H Q => rI CMul (fun i j => .int (i * j)) x y H Q ∨ (rRepS x y H Q ∨ rRep x y H Q)
theorem op_mulD : OpR X (binaryOp .Mult) rMulD := op_mul.or (op_repS.or op_rep)
theorem o_mul : Op2 X rMulD fMul := by
  intro S H x y dx dy d ps qs Q s rx ry e k
  unfold fMul at e
  split at e
  · split at e
    · rename_i h
      cases rx; cases ry; cases e
      refine .inl ⟨_, _, rfl, rfl, ?_, newV s (.int _) k⟩
      simp only [fits64, Bool.or_eq_true, Bool.and_eq_true, decide_eq_true_eq] at h
      exact h
    · cases e
  · split at e
    · rename_i z n h
      simp only [fits62, Bool.and_eq_true, decide_eq_true_eq] at h
      cases ry
      cases rx with | str _ ha =>
      cases e
      refine .inr (.inl ⟨_, _, rfl, rfl, by omega, by omega, by rw [tS_len, line_eq]; exact h.1, ?_⟩)
      refine newV s (.str _ fun c hc => ?_) k
      obtain ⟨l, hl, hc⟩ := List.mem_flatten.mp hc
      rw [(List.mem_replicate.mp hl).2] at hc
      exact ha c hc
    · cases e
  · split at e
    · rename_i o xs n h
      simp only [fits62, Bool.and_eq_true, decide_eq_true_eq] at h
      cases ry; cases e
      obtain ⟨l1, v1, q1, rfl, h1, r1⟩ := rx.lst s
      refine .inr (.inr ⟨l1, n, v1, rfl, rfl, h1, by omega, by omega, by rw [r1.length, line_eq]; exact h.1.1, fun p hp => ?_⟩)
      have hr : ∀ m : Nat, RpAll X.K S H (List.replicate m v1).flatten (List.replicate m xs).flatten [] ∧ shs (List.replicate m xs).flatten = true := by
        intro m
        induction m with
        | zero => exact ⟨.nil, rfl⟩
        | succ m ih =>
          rw [List.replicate_succ, List.replicate_succ, List.flatten_cons, List.flatten_cons]
          exact ⟨by simpa using ((r1.sh h.2).2 H).append ih.1, shs_append h.2 ih.2⟩
      exact newL s (hr _).1 (hr _).2 hp k
    · cases e
  · cases e
mutual
def py : D → PyData
  | .non => .none
  | .bl b => .bool b
  | .int i => .int i
  | .str s => .str (tS s)
  | .lst _ xs => .list (pys xs)
  | .tup _ xs => .tuple (pys xs)
  | .dic _ _ _ => .none
  | .dlk _ _ => .none
  | .ins _ _ _ _ => .none
  | .scr _ => .none
def pys : List D → List PyData
  | [] => []
  | x :: xs => py x :: pys xs
end
mutual
theorem Rp.dp {K : PySem.W.Frag} {S H : Hp} (s : Same S H) : ∀ {v : V} {d : D} {ps : List Addr}, Rp K S H v d ps → d.pl = true → Dp K H v (py d) ∧ (py d).canLay0 = true ∧ (py d).depth = d.dep
  | _, _, _, .non, _ => ⟨.non, rfl, rfl⟩
  | _, _, _, .bl b, _ => ⟨.bl b, rfl, rfl⟩
  | _, _, _, .int i, _ => ⟨.int i, rfl, rfl⟩
  | _, _, _, .str z h, _ => ⟨.str _, by
      simpa [py, PyData.canLay0, PyData.strOk, tS] using h, rfl⟩
  | _, _, _, .scr ns q, h => by simp [D.pl] at h
  | _, _, _, .dicS _ _ _ _, h => by simp [D.pl] at h
  | _, _, _, .dlk _ _ _ _, h => by simp [D.pl] at h
  | _, _, _, .dicO _ _ _, h => by simp [D.pl] at h
  | _, _, _, .xcp _ _, h => by simp [D.pl] at h
  | _, _, _, .insS _ _ _ _, h => by simp [D.pl] at h
  | _, _, _, .insO _ _ _, h => by simp [D.pl] at h
  | _, _, _, .lstS q r z, h => by
    obtain ⟨a, b, c⟩ := RpAll.dp s r (by simpa [D.pl] using h)
    exact ⟨.lst (.inl (.inl (s _ _ q))) a, b, by simp [py, PyData.depth, D.dep, c]⟩
  | _, _, _, .lstO q r, h => by
    obtain ⟨a, b, c⟩ := RpAll.dp s r (by simpa [D.pl] using h)
    exact ⟨.lst (.inl (.inl q)) a, b, by simp [py, PyData.depth, D.dep, c]⟩
  | _, _, _, .tupS q r z, h => by
    obtain ⟨a, b, c⟩ := RpAll.dp s r (by simpa [D.pl] using h)
    exact ⟨.tup (sqt_mono s q) a, b, by simp [py, PyData.depth, D.dep, c]⟩
  | _, _, _, .tupO q r, h => by
    obtain ⟨a, b, c⟩ := RpAll.dp s r (by simpa [D.pl] using h)
    exact ⟨.tup (.inl (.inl q)) a, b, by simp [py, PyData.depth, D.dep, c]⟩
theorem RpAll.dp {K : PySem.W.Frag} {S H : Hp} (s : Same S H) : ∀ {vs : List V} {ds : List D} {ps : List Addr}, RpAll K S H vs ds ps → pls ds = true → DpAll K H vs (pys ds) ∧ PyData.canLayAll0 (pys ds) = true ∧ PyData.depthAll (pys ds) = deps ds
  | _, _, _, .nil, _ => ⟨.nil, rfl, rfl⟩
  | _, _, _, .cons r t, h => by
    simp only [pls, Bool.and_eq_true] at h
    obtain ⟨a, b, c⟩ := Rp.dp s r h.1
    obtain ⟨a', b', c'⟩ := RpAll.dp s t h.2
    exact ⟨.cons a a', by simp [pys, PyData.canLayAll0, b, b'], by simp [pys, PyData.depthAll, deps, c, c']⟩
end
theorem tS_beq (a b : Tx) : (tS a == tS b) = (a == b) := by
  by_cases h : a = b
  · subst h; simp
  · have h' : tS a ≠ tS b := fun z => h (tS_inj z)
    rw [beq_eq_false_iff_ne.mpr h, beq_eq_false_iff_ne.mpr h']
mutual
theorem py_eqv : ∀ d e : D, d.pl = true → e.pl = true → PyData.eqv (py d) (py e) = d.eqv e
  | .non, e, _, h => by cases e <;> simp [py, PyData.eqv, D.eqv, D.pl] at h ⊢
  | .bl b, e, _, h => by cases e <;> simp [py, PyData.eqv, D.eqv, D.pl] at h ⊢
  | .int b, e, _, h => by cases e <;> simp [py, PyData.eqv, D.eqv, D.pl] at h ⊢
  | .str b, e, _, h => by cases e <;> simp [py, PyData.eqv, D.eqv, D.pl, tS_beq] at h ⊢
  | .lst o xs, e, h1, h => by
    cases e <;> simp [py, PyData.eqv, D.eqv, D.pl] at h h1 ⊢
    exact pys_eqv xs _ h1 h
  | .tup o xs, e, h1, h => by
    cases e <;> simp [py, PyData.eqv, D.eqv, D.pl] at h h1 ⊢
    exact pys_eqv xs _ h1 h
  | .dic _ _ _, e, h1, _ => by simp [D.pl] at h1
  | .dlk _ _, e, h1, _ => by simp [D.pl] at h1
  | .ins _ _ _ _, e, h1, _ => by simp [D.pl] at h1
  | .scr _, e, h1, _ => by simp [D.pl] at h1
theorem pys_eqv : ∀ ds es : List D, pls ds = true → pls es = true → PyData.eqvAll (pys ds) (pys es) = eqvs ds es
  | [], es, _, _ => by cases es <;> simp [pys, PyData.eqvAll, eqvs]
  | d :: ds, es, h1, h => by
    cases es with
    | nil => simp [pys, PyData.eqvAll, eqvs]
    | cons e es =>
      simp only [pls, Bool.and_eq_true] at h h1
      simp [pys, PyData.eqvAll, eqvs, py_eqv d e h1.1 h.1, pys_eqv ds es h1.2 h.2]
end
theorem o_eq : Op2 X (rEqD X.K) fEq := by
  intro S H x y dx dy d ps qs Q s rx ry e k
  unfold fEq at e
  split at e
  · rename_i h
    simp only [Bool.and_eq_true, decide_eq_true_eq] at h
    cases e
    obtain ⟨a, b, c⟩ := rx.dp s h.1.1.1
    obtain ⟨a', b', c'⟩ := ry.dp s h.1.1.2
    refine ⟨_, _, a, a', by simp [SeqAt.shaped, b, c, h.1.2], by simp [SeqAt.shaped, b', c', h.2], ?_⟩
    rw [py_eqv _ _ h.1.1.1 h.1.1.2]
    exact newV s (.bl _) k
  · cases e
theorem o_ne : Op2 X (rNeD X.K) fNe := by
  intro S H x y dx dy d ps qs Q s rx ry e k
  unfold fNe at e
  split at e
  · rename_i h
    simp only [Bool.and_eq_true, decide_eq_true_eq] at h
    cases e
    obtain ⟨a, b, c⟩ := rx.dp s h.1.1.1
    obtain ⟨a', b', c'⟩ := ry.dp s h.1.1.2
    refine ⟨_, _, a, a', by simp [SeqAt.shaped, b, c, h.1.2], by simp [SeqAt.shaped, b', c', h.2], ?_⟩
    rw [py_eqv _ _ h.1.1.1 h.1.1.2]
    exact newV s (.bl _) k
  · cases e
theorem pre_eq (S l : Tx) : preT S l = TL.pre S l := rfl
theorem sub_iff (S : Tx) : ∀ l : Tx, subT S l = true ↔ ∃ i, i ≤ l.length ∧ (l.drop i).take S.length = S
  | [] => by
    constructor
    · intro h
      have : S = [] := by simpa [subT] using h
      subst this
      exact ⟨0, by simp⟩
    · rintro ⟨i, hi, h⟩
      simp at h
      simp [subT, h]
  | c :: r => by
    unfold subT
    rw [Bool.or_eq_true, sub_iff S r]
    constructor
    · rintro (h | ⟨i, hi, h⟩)
      · exact ⟨0, by simp, by simpa [preT] using h⟩
      · exact ⟨i + 1, by simpa using hi, by simpa using h⟩
    · rintro ⟨i, hi, h⟩
      cases i with
      | zero => exact .inl (by simpa [preT] using h)
      | succ i => exact .inr ⟨i, by simpa using hi, by simpa using h⟩
theorem in_sub (a b : Tx) : (!(Builtin.Str.occurrences (tS b) (tS a) 0 (tS b).length 1).isEmpty) = subT a b := by
  have key : (!(Builtin.Str.occurrences (tS b) (tS a) 0 (tS b).length 1).isEmpty) = true ↔ subT a b = true := by
    rw [StrLaws.found_iff, sub_iff]
    have hs : ∀ i, Builtin.Str.subAt (tS b) (tS a) i = true ↔ (b.drop i).take a.length = a := by
      intro i
      unfold Builtin.Str.subAt
      rw [beq_iff_eq, tS_len]
      show (b.toArray.extract i (i + a.length)) = a.toArray ↔ _
      rw [← Array.toList_inj]
      simp only [List.extract_toArray, List.extract_eq_take_drop]
      rw [show i + a.length - i = a.length by omega]
    constructor
    · rintro ⟨i, h1, h2⟩
      rw [tS_len, tS_len] at h1
      exact ⟨i, by omega, (hs i).mp h2⟩
    · rintro ⟨i, h1, h2⟩
      refine ⟨i, ?_, (hs i).mpr h2⟩
      rw [tS_len, tS_len]
      have := congrArg List.length h2
      simp only [List.length_take, List.length_drop] at this
      omega
  cases h : subT a b with
  | true => exact key.mpr h
  | false =>
    cases h' : (!(Builtin.Str.occurrences (tS b) (tS a) 0 (tS b).length 1).isEmpty) with
    | false => rfl
    | true => rw [key.mp h'] at h; cases h
theorem fl_eqv {K : PySem.W.Frag} {S H : Hp} {x y : V} {dx dy : D} {ps qs : List Addr} (rx : Rp K S H x dx ps) (ry : Rp K S H y dy qs) (fx : dx.fl = true) (fy : dy.fl = true) : flatV x = true ∧ eqV x y = dx.eqv dy := by
  cases rx <;> simp [D.fl] at fx <;> cases ry <;> simp [D.fl] at fy <;> simp [flatV, eqV, D.eqv, tS_beq]
theorem fl_in {K : PySem.W.Frag} {S H : Hp} {x : V} {dx : D} {ps : List Addr} (rx : Rp K S H x dx ps) (fx : dx.fl = true) : ∀ {vs : List V} {ds : List D} {qs : List Addr}, RpAll K S H vs ds qs → allFl ds = true → vs.all flatV = true ∧ inV x vs = memD dx ds
  | _, _, _, .nil, _ => ⟨rfl, rfl⟩
  | _, _, _, .cons r t, h => by
    simp only [allFl, Bool.and_eq_true] at h
    obtain ⟨a, b⟩ := fl_in rx fx t h.2
    obtain ⟨c, e⟩ := fl_eqv r rx h.1 fx
    unfold inV at b ⊢
    exact ⟨by simp [c, a], by simp [memD, e, b]⟩
def rInD (K : PySem.W.Frag) (neg : Bool) : R2 := fun x y H Q => (∃ i j, x = .str i ∧ y = .str j ∧ Q (.bl (if neg then !(!(Builtin.Str.occurrences j i 0 j.length 1).isEmpty) else (!(Builtin.Str.occurrences j i 0 j.length 1).isEmpty))) H) ∨ rIn K neg x y H Q
theorem op_inD : OpR X (compareOp .In) (rInD X.K false) := op_in_str.or op_in_seq
theorem op_ninD : OpR X (compareOp .NotIn) (rInD X.K true) := op_notin_str.or op_notIn_seq
theorem o_inG (neg : Bool) : ∀ (S H : Hp) (x y : V) (dx dy : D) (b : Bool) (ps qs : List Addr) (Q : VK), Same S H → Rp X.K S H x dx ps → Rp X.K S H y dy qs → fIn dx dy = some (.bl b) → Q (.bl (if neg then !b else b)) H → rInD X.K neg x y H Q := by
  intro S H x y dx dy b ps qs Q s rx ry e k
  unfold fIn at e
  split at e
  · cases rx with | str _ ha => cases ry with | str _ hb =>
    cases e
    refine .inl ⟨_, _, rfl, rfl, ?_⟩
    rw [in_sub]
    exact k
  · split at e
    · rename_i h
      simp only [Bool.and_eq_true] at h
      cases e
      obtain ⟨l1, v1, q1, rfl, h1, r1⟩ := ry.lst s
      obtain ⟨a, c⟩ := fl_in rx h.1 r1 h.2
      have fx := (fl_eqv rx rx h.1 h.1).1
      exact .inr ⟨l1, v1, rfl, .inl (.inl (.inl h1)), fx, a, by rw [c]; exact k⟩
    · cases e
  · split at e
    · rename_i h
      simp only [Bool.and_eq_true] at h
      cases e
      obtain ⟨l1, v1, q1, rfl, h1, r1⟩ := ry.tup s
      obtain ⟨a, c⟩ := fl_in rx h.1 r1 h.2
      have fx := (fl_eqv rx rx h.1 h.1).1
      exact .inr ⟨l1, v1, rfl, .inr h1, fx, a, by rw [c]; exact k⟩
    · cases e
  · cases e
theorem fIn_bl {dx dy d : D} (h : fIn dx dy = some d) : ∃ b, d = .bl b := by
  unfold fIn at h
  split at h
  · cases h; exact ⟨_, rfl⟩
  · split at h
    · cases h; exact ⟨_, rfl⟩
    · cases h
  · split at h
    · cases h; exact ⟨_, rfl⟩
    · cases h
  · cases h
theorem o_in : Op2 X (rInD X.K false) fIn := by
  intro S H x y dx dy d ps qs Q s rx ry e k
  obtain ⟨b, rfl⟩ := fIn_bl e
  exact o_inG false S H x y dx dy b ps qs Q s rx ry e (newV s (.bl _) k)
theorem o_nin : Op2 X (rInD X.K true) fNin := by
  intro S H x y dx dy d ps qs Q s rx ry e k
  unfold fNin at e
  split at e
  · rename_i b h
    cases e
    exact o_inG true S H x y dx dy b ps qs Q s rx ry h (newV s (.bl _) k)
  · cases e
theorem non_iff {K : PySem.W.Frag} {S H : Hp} {x : V} {dx : D} {ps : List Addr} (rx : Rp K S H x dx ps) : decide (x = .non) = dx.isNon := by
  cases rx <;> simp [D.isNon]
theorem ixD_eq : ixD = ixN := rfl
theorem o_ix : Op2 X (rIx X.K) fIx := by
  intro S H x y dx dy d ps qs Q s rx ry e k
  unfold fIx at e
  split at e
  · cases ry
    obtain ⟨l1, v1, q1, rfl, h1, r1⟩ := rx.lst s
    obtain ⟨j, hj, e⟩ := Option.bind_eq_some_iff.mp e
    obtain ⟨d', hd, e⟩ := Option.bind_eq_some_iff.mp e
    split at e
    · rename_i hs
      cases e
      obtain ⟨v, rs, hv, rv, _⟩ := r1.get hd
      refine .inl ⟨l1, v1, _, v, rfl, rfl, .inl (.inl h1), ?_, newV s ((rv.sh hs).2 H) k⟩
      unfold atI
      rw [r1.length, ← ixD_eq, hj]
      exact hv
    · cases e
  · cases ry
    obtain ⟨l1, v1, q1, rfl, h1, r1⟩ := rx.tup s
    obtain ⟨j, hj, e⟩ := Option.bind_eq_some_iff.mp e
    obtain ⟨d', hd, e⟩ := Option.bind_eq_some_iff.mp e
    split at e
    · rename_i hs
      cases e
      obtain ⟨v, rs, hv, rv, _⟩ := r1.get hd
      refine .inr (.inl ⟨l1, v1, _, v, rfl, rfl, h1, ?_, newV s ((rv.sh hs).2 H) k⟩)
      unfold atI
      rw [r1.length, ← ixD_eq, hj]
      exact hv
    · cases e
  · cases ry
    rename_i ns i
    cases rx with | scr _ q =>
    obtain ⟨j, hj, e⟩ := Option.bind_eq_some_iff.mp e
    obtain ⟨n, hn, e⟩ := Option.map_eq_some_iff.mp e
    subst e
    refine .inl ⟨_, _, _, .int n, rfl, rfl, sql_mono s q, ?_, newV s (.int n) k⟩
    unfold atI
    rw [List.length_map, ← ixD_eq, hj]
    simp [hn]
  · cases ry
    split at e
    · rename_i z i hz
      cases rx with | str _ ha =>
      obtain ⟨j, hj, e⟩ := Option.bind_eq_some_iff.mp e
      obtain ⟨c, hc, e⟩ := Option.map_eq_some_iff.mp e
      subst e
      refine .inr (.inr ⟨_, _, c, rfl, rfl, by rw [tS_len, line_eq]; exact hz, ?_, ?_⟩)
      · unfold atI
        show (ixN z.length i).bind _ = _
        rw [← ixD_eq, hj]
        exact hc
      · exact newV s (.str [c] (by
          intro c' hc'
          have : c' = c := by simpa using hc'
          subst this
          exact ha c' (List.mem_of_getElem? hc))) k
    · cases e
  · cases e
def rSlD (K : PySem.W.Frag) : V → Option Int → Option Int → Hp → VK → Prop := fun x lo hi H Q => rSlL K x lo hi H Q ∨ rSlS x lo hi H Q
theorem sl_D : SlR X (rSlD X.K) := sl_list.or sl_str
theorem sIxD_eq : sIxD = HT.sIx := rfl
theorem RpAll.cutV {K : PySem.W.Frag} {S H : Hp} {vs : List V} {ds : List D} {ps : List Addr} (r : RpAll K S H vs ds ps) (sh : shs ds = true) (lo hi : Option Int) : RpAll K S H (L2.cutV vs lo hi) (cutL ds lo hi) [] ∧ shs (cutL ds lo hi) = true := by
  unfold L2.cutV cutL
  rw [r.length, ← sIxD_eq]
  exact ⟨(r.drop _ sh).take _ (shs_drop _ sh), shs_take _ (shs_drop _ sh)⟩
theorem o_sl (S H : Hp) (x : V) (dx d : D) (lo hi : Option Int) (ps : List Addr) (Q : VK) (s : Same S H) (rx : Rp X.K S H x dx ps) (e : cutD dx lo hi = some d)
    (k : ∀ v S' H' rs, Grow S H S' H' → Fresh H S' rs → Rp X.K S' H' v d rs → Q v H') : rSlD X.K x lo hi H Q := by
  unfold cutD at e
  split at e
  · split at e
    · rename_i z hz
      cases rx with | str _ ha =>
      cases e
      refine .inr ⟨_, rfl, by rw [tS_len, line_eq]; exact hz, ?_⟩
      refine newV s (v := .str (cutS (tS z) lo hi)) ?_ k
      have e : cutS (tS z) lo hi = tS (cutL z lo hi) := by
        unfold cutS cutL
        rw [tS_len, sIxD_eq]
        rfl
      rw [e]
      exact .str _ fun c hc => ha c (List.mem_of_mem_drop (List.mem_of_mem_take hc))
    · cases e
  · split at e
    · rename_i hs
      cases e
      obtain ⟨l1, v1, q1, rfl, h1, r1⟩ := rx.lst s
      obtain ⟨a, b⟩ := r1.cutV hs lo hi
      exact .inl ⟨l1, v1, rfl, .inl (.inl h1), fun p hp => newL s a b hp k⟩
    · cases e
  · rename_i ns
    cases e
    cases rx with | scr _ q =>
    refine .inl ⟨_, _, rfl, sql_mono s q, fun p hp => ?_⟩
    have h1 : ∀ l : List Int, RpAll X.K S H (l.map V.int) (l.map D.int) [] ∧ shs (l.map D.int) = true := by
      intro l
      induction l with
      | nil => exact ⟨.nil, rfl⟩
      | cons a l ih => exact ⟨.cons (.int a) ih.1, by simpa [shs, D.sh] using ih.2⟩
    have h2 : L2.cutV (ns.map V.int) lo hi = (cutL ns lo hi).map V.int := by
      unfold L2.cutV cutL
      rw [List.length_map, sIxD_eq, List.map_take, List.map_drop]
    rw [h2]
    exact newL s (h1 _).1 (h1 _).2 hp k
  · cases e
end
end G
set_option maxHeartbeats 1000000
namespace G
open PySem L2
section
variable {cl : Cl} {K : PySem.W.Frag} {W : WX} {σ : L2.St} {S H S1 H1 : Hp} {r : Res D} {rs : Res (List D)} {Q : VK} {QA : List V → Hp → Prop}
theorem PostO.ofA {g : D → Res (List D)} (h : PostA cl K W σ S H (r.bind g) QA) :
    PostO cl K W σ S H r (fun v H1 => ∃ d S1 qs, r = .ok d ∧ Grow S H S1 H1 ∧ Rp K S1 H1 v d qs ∧ PostA cl K W σ S1 H1 (g d) QA) := by
  cases r with
  | no => exact h
  | ok d => 
    refine fun v S' H' qs g' rp => ⟨d, S', qs, rfl, g', rp, ?_⟩
    have h : PostA cl K W σ S H (g d) QA := h
    cases k : g d with
    | no => rw [k] at h; exact h
    | ok ds => rw [k] at h; exact fun vs S2 H2 ps g2 ra => h vs S2 H2 ps (g'.trans g2) ra
    | ex c fs => rw [k] at h; exact fun S2 H2 cls dd g2 x => h S2 H2 cls dd (g'.trans g2) x
  | ex c fs => exact h
theorem PostE.ofAE {g : D → Res (List D)} (h : PostAE cl K W σ S H (r.bind g) QA) :
    PostE cl K W σ S H r (fun v H1 => ∃ d S1 qs, r = .ok d ∧ Grow S H S1 H1 ∧ Fresh H S1 qs ∧ Rp K S1 H1 v d qs ∧ PostAE cl K W σ S1 H1 (g d) QA) := by
  cases r with
  | no => exact h
  | ok d => 
    refine fun v S' H' qs g' f rp => ⟨d, S', qs, rfl, g', f, rp, ?_⟩
    have h : PostAE cl K W σ S H (g d) QA := h
    cases k : g d with
    | no => rw [k] at h; exact h
    | ok ds => rw [k] at h; exact fun vs S2 H2 ps g2 f2 ra => h vs S2 H2 ps (g'.trans g2) (f2.back g'.hh) ra
    | ex c fs => rw [k] at h; exact fun S2 H2 cls dd g2 x => h S2 H2 cls dd (g'.trans g2) x
  | ex c fs => exact h
theorem post_args {g : List D → Res D} (h : PostE cl K W σ S H (rs.bind g) Q) :
    PostA cl K W σ S H rs (fun vs H1 => ∃ ds S1 qs, rs = .ok ds ∧ Grow S H S1 H1 ∧ RpAll K S1 H1 vs ds qs ∧ PostE cl K W σ S1 H1 (g ds) Q) := by
  cases rs with
  | no => exact h
  | ok ds => exact fun vs S' H' qs g' ra => ⟨ds, S', qs, rfl, g', ra, PostE.on g' h⟩
  | ex c fs => exact h
theorem post_argsE {g : List D → Res D} (h : PostE cl K W σ S H (rs.bind g) Q) :
    PostAE cl K W σ S H rs (fun vs H1 => ∃ ds S1 qs, rs = .ok ds ∧ Grow S H S1 H1 ∧ Fresh H S1 qs ∧ RpAll K S1 H1 vs ds qs ∧ PostE cl K W σ S H (g ds) Q) := by
  cases rs with
  | no => exact h
  | ok ds => exact fun vs S' H' qs g' f ra => ⟨ds, S', qs, rfl, g', f, ra, h⟩
  | ex c fs => exact h
end
section
variable {cl : Cl} {X : Cx} {W : WX} {e a b c : Expr} {es : List Expr} {f g h : E} {fs : List E} {pos p : Pos}
theorem da_nil : DA cl X W [] [] := ⟨tNil, pa_nil, fun σ ρ S H Q l s z => z [] S H [] (Grow.refl s) .nil⟩
theorem da_cons (ha : DO cl X W e f) (hr : DA cl X W es fs) (hs : starEach (e :: es) X.env = (false, eval e X.env) :: starEach es X.env := by rfl) : DA cl X W (e :: es) (f :: fs) := by
  obtain ⟨ta, pa, qa⟩ := ha.pf
  obtain ⟨tr, pr, qr⟩ := hr.pf
  refine ⟨_, pa_cons pa pr hs, fun σ ρ S H Q l s z => ?_⟩
  refine qa σ ρ S H _ l s ((PostO.ofA z).imp ?_)
  rintro v H1 ⟨d, S1, qs, e, g1, rp, z1⟩
  refine qr σ ρ S1 H1 _ (l.mono g1) g1.sh ?_
  cases k : eArgs fs ρ with
  | no => rw [k] at z1; exact z1
  | ex c fs => rw [k] at z1; exact z1
  | ok ds =>
    rw [k] at z1
    exact fun vs S2 H2 ps g2 ra => z1 (v :: vs) S2 H2 _ g2 (.cons (rp.mono g2.ss g2.hh) ra)
theorem dae_nil : DAE cl X W [] [] := ⟨tNil, pa_nil, fun σ ρ S H Q l s z => z [] S H [] (Grow.refl s) Fresh.nil .nil⟩
theorem dae_cons (ha : DE cl X W e f) (hr : DAE cl X W es fs) (hs : starEach (e :: es) X.env = (false, eval e X.env) :: starEach es X.env := by rfl) : DAE cl X W (e :: es) (f :: fs) := by
  obtain ⟨ta, pa, qa⟩ := ha.pf
  obtain ⟨tr, pr, qr⟩ := hr.pf
  refine ⟨_, pa_cons pa pr hs, fun σ ρ S H Q l s z => ?_⟩
  have z0 := PostE.ofAE (r := f ρ) z
  refine qa σ ρ S H _ l s ?_
  cases kf : f ρ with
  | no => rw [kf] at z0; exact z0
  | ex c fs => rw [kf] at z0; exact z0
  | ok d0 =>
    rw [kf] at z0
    intro v S1 H1 qs g1 f1 rp
    obtain ⟨d, S1', qs', e, g1', f1', rp', z1⟩ := z0 v S1 H1 qs g1 f1 rp
    cases e
    refine qr σ ρ S1' H1 _ (l.mono g1') g1'.sh ?_
    have z2 : PostAE cl X.K W σ S H ((Res.ok d0).bind fun d => (eArgs fs ρ).bind fun ds => .ok (d :: ds)) Q := by
      have : eArgs (f :: fs) ρ = (f ρ).bind fun d => (eArgs fs ρ).bind fun ds => .ok (d :: ds) := rfl
      rw [this, kf] at z
      exact z
    cases k : eArgs fs ρ with
    | no => rw [k] at z1; exact z1
    | ex c fs => rw [k] at z1; exact z1
    | ok ds =>
      simp only [k, Res.bind] at z2
      exact fun vs S2 H2 ps g2 f2 ra => z2 (v :: vs) S2 H2 _ (g1'.trans g2) (f1'.app (fun q hq => rp'.there q hq) g1'.hh g2 f2) (.cons (rp'.mono g2.ss g2.hh) ra)
theorem de_lst (h : DAE cl X W es fs) (hz : fs.length ≤ 1000000 := by first | decide | exact Nat.le_of_ble_eq_true rfl) : DE cl X W (.List es pos) (eL fs) := by
  obtain ⟨t, pt, q⟩ := h.pf
  refine ⟨_, pe_lst pt, fun σ ρ S H Q l s z => q σ ρ S H _ l s ?_⟩
  have z0 := post_argsE z
  cases k : eArgs fs ρ with
  | no => rw [k] at z0; exact z0
  | ex c fs => rw [k] at z0; exact z0
  | ok ds =>
    have hl : ds.length = fs.length := by
      clear z z0 h q pt hz
      induction fs generalizing ds with
      | nil => cases k; rfl
      | cons f fs ih =>
        unfold eArgs at k
        cases k1 : f ρ <;> simp [k1, Res.bind] at k
        cases k2 : eArgs fs ρ <;> simp [k2] at k
        subst k
        simp [ih _ k2]
    rw [k] at z0
    intro vs S' H' qs g f ra
    obtain ⟨ds', S1, qs', e, g1, f1, ra1, z1⟩ := z0 vs S' H' qs g f ra
    cases e
    refine ⟨by rw [ra1.length, hl]; exact Nat.le_trans hz (by decide), fun p hp => ?_⟩
    refine z1 (.ref p) S1 _ (p :: qs') (g1.more (same_new hp)) ⟨List.nodup_cons.mpr ⟨fun hq => ?_, f1.1⟩, fun q hq => ?_⟩ (.lstO upd_same (ra1.mono (Same.refl _) (same_new hp)))
    · obtain ⟨o, ho⟩ := ra1.there p hq
      rw [hp] at ho; cases ho
    · rcases List.mem_cons.mp hq with rfl | hq
      · exact ⟨none_back g1.hh hp, none_back g1.sh hp⟩
      · exact f1.2 q hq
theorem de_tup {x1} (h : DAE cl X W es fs) (hz : fs.length ≤ 1000000 := by first | decide | exact Nat.le_of_ble_eq_true rfl) : DE cl X W (.Tuple es x1 pos) (eT fs) := by
  obtain ⟨t, pt, q⟩ := h.pf
  refine ⟨_, pe_tup pt, fun σ ρ S H Q l s z => q σ ρ S H _ l s ?_⟩
  have z0 := post_argsE z
  cases k : eArgs fs ρ with
  | no => rw [k] at z0; exact z0
  | ex c fs => rw [k] at z0; exact z0
  | ok ds =>
    have hl : ds.length = fs.length := by
      clear z z0 h q pt hz
      induction fs generalizing ds with
      | nil => cases k; rfl
      | cons f fs ih =>
        unfold eArgs at k
        cases k1 : f ρ <;> simp [k1, Res.bind] at k
        cases k2 : eArgs fs ρ <;> simp [k2] at k
        subst k
        simp [ih _ k2]
    rw [k] at z0
    intro vs S' H' qs g f ra
    obtain ⟨ds', S1, qs', e, g1, f1, ra1, z1⟩ := z0 vs S' H' qs g f ra
    cases e
    refine ⟨by rw [ra1.length, hl]; exact Nat.le_trans hz (by decide), fun p hp => ?_⟩
    refine z1 (.ref p) S1 _ (p :: qs') (g1.more (same_new hp)) ⟨List.nodup_cons.mpr ⟨fun hq => ?_, f1.1⟩, fun q hq => ?_⟩ (.tupO upd_same (ra1.mono (Same.refl _) (same_new hp)))
    · obtain ⟨o, ho⟩ := ra1.there p hq
      rw [hp] at ho; cases ho
    · rcases List.mem_cons.mp hq with rfl | hq
      · exact ⟨none_back g1.hh hp, none_back g1.sh hp⟩
      · exact f1.2 q hq
theorem de_b1 {x : Str} {id : String} {r : List V → Hp → VK → Prop} {F : D → Option D} (hc : CallR X (.builtin id) r) (o : Op1 X (fun v => r [v]) F) (hg : Gl X x) (hm : X.mg x = none) (hv : bootBuiltins x = some (.builtin id)) (ha : DO cl X W a f)
    (hn : x ≠ "__name__" := by decide) (hdb : (x == ("__debug__" : Str)) = false := by decide) (hs : starEach [a] X.env = [(false, eval a X.env)] := by rfl) : DE cl X W (.Call (.Name x p) [a] [] pos) (e1 F f) :=
  de_1 (r := fun v => r [v]) (fun ta pa => pe_callB hc hg hm hv (pa_cons pa pa_nil hs) hn hdb hs) o ha
theorem de_t1 {x : Str} {T : String} {r : List V → Hp → VK → Prop} {F : D → Option D} (hc : CallR X (.type T) r) (o : Op1 X (fun v => r [v]) F) (hg : Gl X x) (hm : X.mg x = none) (hv : bootBuiltins x = some (.type T)) (ha : DO cl X W a f)
    (hn : x ≠ "__name__" := by decide) (hdb : (x == ("__debug__" : Str)) = false := by decide) (hs : starEach [a] X.env = [(false, eval a X.env)] := by rfl) : DE cl X W (.Call (.Name x p) [a] [] pos) (e1 F f) :=
  de_1 (r := fun v => r [v]) (fun ta pa => pe_callTy hc hg hm hv (pa_cons pa pa_nil hs) hn hdb hs) o ha
theorem o_len : Op1 X (fun v => (fun xs H Q => ∃ x n, xs = [x] ∧ LenV X.K x H n ∧ Q (.int n) H : List V → Hp → VK → Prop) [v]) fLen := by
  intro S H x dx d ps Q s rx e k
  unfold fLen at e
  split at e
  · split at e
    · rename_i z hz
      cases e
      cases rx with | str _ ha =>
      exact ⟨_, z.length, rfl, ⟨by rw [tS_len, line_eq]; exact hz, (tS_len z).symm⟩, newV s (.int _) k⟩
    · cases e
  · cases e
    obtain ⟨l1, v1, q1, rfl, h1, r1⟩ := rx.lst s
    exact ⟨_, _, rfl, .inl ⟨v1, .inl (.inl h1), rfl⟩, by rw [r1.length]; exact newV s (.int _) k⟩
  · cases e
    obtain ⟨l1, v1, q1, rfl, h1, r1⟩ := rx.tup s
    exact ⟨_, _, rfl, .inr ⟨v1, h1, rfl⟩, by rw [r1.length]; exact newV s (.int _) k⟩
  · rename_i ns
    cases e
    cases rx with | scr _ q =>
    exact ⟨_, _, rfl, .inl ⟨_, sql_mono s q, rfl⟩, by rw [List.length_map]; exact newV s (.int _) k⟩
  · cases e
theorem o_int : Op1 X (fun v => (fun xs H Q => (∃ i, xs = [.int i] ∧ Q (.int i) H) ∨ ∃ k, xs = [.bl k] ∧ Q (.int (if k then 1 else 0)) H : List V → Hp → VK → Prop) [v]) fInt := by
  intro S H x dx d ps Q s rx e k
  unfold fInt at e
  split at e
  · cases e; cases rx
    exact .inl ⟨_, rfl, newV s (.int _) k⟩
  · cases e; cases rx
    exact .inr ⟨_, rfl, newV s (.int _) k⟩
  · cases e
theorem rp_bools {K : PySem.W.Frag} {S H : Hp} : ∀ {vs : List V} {ds : List D} {ps : List Addr} {bs : List Bool}, RpAll K S H vs ds ps → boolsD ds = some bs → vs = bs.map V.bl
  | _, _, _, _, .nil, h => by simp [boolsD] at h; subst h; rfl
  | _, _, _, _, .cons r t, h => by
    cases r <;> simp [boolsD] at h
    obtain ⟨bs', h1, rfl⟩ := h
    rw [rp_bools t h1]; rfl
theorem rp_ints {K : PySem.W.Frag} {S H : Hp} : ∀ {vs : List V} {ds : List D} {ps : List Addr} {bs : List Int}, RpAll K S H vs ds ps → intsD ds = some bs → vs = bs.map V.int
  | _, _, _, _, .nil, h => by simp [intsD] at h; subst h; rfl
  | _, _, _, _, .cons r t, h => by
    cases r <;> simp [intsD] at h
    obtain ⟨bs', h1, rfl⟩ := h
    rw [rp_ints t h1]; rfl
theorem rp_strs {K : PySem.W.Frag} {S H : Hp} : ∀ {vs : List V} {ds : List D} {ps : List Addr} {bs : List Tx}, RpAll K S H vs ds ps → strsD ds = some bs → vs = (bs.map tS).map V.str ∧ ∀ b ∈ bs, ∀ c ∈ b, c < 0x110000
  | _, _, _, _, .nil, h => by simp [strsD] at h; subst h; exact ⟨rfl, fun _ z => nomatch z⟩
  | _, _, _, _, .cons r t, h => by
    cases r <;> simp [strsD] at h
    rename_i z hz
    obtain ⟨bs', h1, rfl⟩ := h
    obtain ⟨e1, e2⟩ := rp_strs t h1
    exact ⟨by rw [e1]; rfl, fun b hb => (List.mem_cons.mp hb).elim (fun e => e ▸ hz) (e2 b)⟩
theorem o_all : Op1 X (fun v => rAll X.K [v]) fAll := by
  intro S H x dx d ps Q s rx e k
  unfold fAll at e
  split at e
  · obtain ⟨l1, v1, q1, rfl, h1, r1⟩ := rx.lst s
    obtain ⟨bs, hb, rfl⟩ := Option.map_eq_some_iff.mp e
    exact ⟨l1, bs, rfl, by rw [← rp_bools r1 hb]; exact .inl (.inl h1), newV s (.bl _) k⟩
  · cases e
theorem o_any : Op1 X (fun v => rAny X.K [v]) fAny := by
  intro S H x dx d ps Q s rx e k
  unfold fAny at e
  split at e
  · obtain ⟨l1, v1, q1, rfl, h1, r1⟩ := rx.lst s
    obtain ⟨bs, hb, rfl⟩ := Option.map_eq_some_iff.mp e
    exact ⟨l1, bs, rfl, by rw [← rp_bools r1 hb]; exact .inl (.inl h1), newV s (.bl _) k⟩
  · cases e
theorem o_sum : Op1 X (fun v => rSum X.K [v]) fSum := by
  intro S H x dx d ps Q s rx e k
  unfold fSum at e
  split at e
  · obtain ⟨l1, v1, q1, rfl, h1, r1⟩ := rx.lst s
    obtain ⟨bs, hb, rfl⟩ := Option.map_eq_some_iff.mp e
    exact ⟨l1, bs, rfl, by rw [← rp_ints r1 hb]; exact .inl (.inl h1), newV s (.int _) k⟩
  · cases e
theorem rp_intmap {K : PySem.W.Frag} {S H : Hp} (l : List Int) : RpAll K S H (l.map V.int) (l.map D.int) [] ∧ shs (l.map D.int) = true := by
  induction l with
  | nil => exact ⟨.nil, rfl⟩
  | cons a l ih => exact ⟨.cons (.int a) ih.1, by simpa [shs, D.sh] using ih.2⟩
theorem o_list : Op1 X (fun v => (fun xs H Q => ∃ p ys, xs = [.ref p] ∧ (SqL X.K H p ys ∨ SqT X.K H p ys) ∧ ∀ l, H l = none → Q (.ref l) (upd H l (.lst ys)) : List V → Hp → VK → Prop) [v]) fList := by
  intro S H x dx d ps Q s rx e k
  unfold fList at e
  split at e
  · split at e
    · rename_i hs
      cases e
      obtain ⟨l1, v1, q1, rfl, h1, r1⟩ := rx.lst s
      exact ⟨l1, v1, rfl, .inl (.inl (.inl h1)), fun p hp => newL s r1 hs hp k⟩
    · cases e
  · split at e
    · rename_i hs
      cases e
      obtain ⟨l1, v1, q1, rfl, h1, r1⟩ := rx.tup s
      exact ⟨l1, v1, rfl, .inr h1, fun p hp => newL s r1 hs hp k⟩
    · cases e
  · cases e
    cases rx with | scr _ q =>
    exact ⟨_, _, rfl, .inl (sql_mono s q), fun p hp => newL s (rp_intmap (K := X.K) (S := S) (H := H) _).1 (rp_intmap (K := X.K) (S := S) (H := H) _).2 hp k⟩
  · cases e
theorem o_ord : Op1 X (fun v => (fun xs H Q => ∃ x : Str, xs = [.str x] ∧ x.length = 1 ∧ Q (.int (x.cps.getD 0 0 : Nat)) H : List V → Hp → VK → Prop) [v]) fOrd := by
  intro S H x dx d ps Q s rx e k
  unfold fOrd at e
  split at e
  · rename_i c
    cases e
    cases rx with | str _ ha =>
    exact ⟨_, rfl, rfl, newV s (v := .int (c : Nat)) (.int _) k⟩
  · cases e
def Ty.nm : Ty → String
  | .str => "str" | .int => "int" | .bool => "bool" | .list => "list" | .tuple => "tuple" | .dict => "dict"
theorem k_non (t : Ty) : kitB "NoneType" t.nm = some (isT t .non) := by cases t <;> decide +kernel
theorem k_bool (t : Ty) : kitB "bool" t.nm = some (isT t (.bl true)) := by cases t <;> decide +kernel
theorem k_int (t : Ty) : kitB "int" t.nm = some (isT t (.int 0)) := by cases t <;> decide +kernel
theorem k_str (t : Ty) : kitB "str" t.nm = some (isT t (.str [])) := by cases t <;> decide +kernel
theorem k_list (t : Ty) : kitB "list" t.nm = some (isT t (.lst true [])) := by cases t <;> decide +kernel
theorem k_tuple (t : Ty) : kitB "tuple" t.nm = some (isT t (.tup true [])) := by cases t <;> decide +kernel
theorem k_dict (t : Ty) : kitB "dict" t.nm = some (isT t (.dic true [] [])) := by cases t <;> decide +kernel
theorem o_isT (t : Ty) : Op1 X (fun v => rIsi X.K [v, .ty t.nm]) (fIsT t) := by
  intro S H x dx d ps Q s rx e k
  have fin : ∀ {v : V} {n : String} {b : Bool}, x = v → TyX X.K H v (.type n) → kitB n t.nm = some b → D.bl b = d → rIsi X.K [x, .ty t.nm] H Q := by
    intro v n b ex ty hk ed
    subst ex; subst ed
    exact ⟨_, _, _, _, b, rfl, .ty _, ty, kit_ty hk, newV s (.bl _) k⟩
  cases rx with
  | non => exact fin rfl (.base .non) (n := "NoneType") (b := isT t .non) ((k_non t).trans (by cases t <;> rfl)) (by simpa [fIsT] using e)
  | bl b => exact fin rfl (.base (.bl b)) (n := "bool") (b := isT t (.bl b)) ((k_bool t).trans (by cases t <;> rfl)) (by simpa [fIsT] using e)
  | int b => exact fin rfl (.base (.int b)) (n := "int") (b := isT t (.int b)) ((k_int t).trans (by cases t <;> rfl)) (by simpa [fIsT] using e)
  | str b hb => exact fin rfl (.base (.str _)) (n := "str") (b := isT t (.str b)) ((k_str t).trans (by cases t <;> rfl)) (by simpa [fIsT] using e)
  | scr ns q => simp [fIsT] at e
  | xcp _ _ => simp [fIsT] at e
  | insS _ _ _ _ => simp [fIsT] at e
  | insO _ _ _ => simp [fIsT] at e
  | @dicS a kvs ks ds0 q k2 r z => exact fin rfl (.base (.dK (s _ _ q))) (n := "dict") (b := isT t (.dic false ks ds0)) ((k_dict t).trans (by cases t <;> rfl)) (by simpa [fIsT] using e)
  | @dlk a kvs ks ds0 ob q k2 r z => exact fin rfl (.fDict (s _ _ q)) (n := "dict") (b := isT t (.dlk ks ds0)) ((k_dict t).trans (by cases t <;> rfl)) (by simpa [fIsT] using e)
  | @dicO a kvs ks ds0 ps q k2 r => exact fin rfl (.base (.dK q)) (n := "dict") (b := isT t (.dic true ks ds0)) ((k_dict t).trans (by cases t <;> rfl)) (by simpa [fIsT] using e)
  | lstS q r z => exact fin rfl (.base (.lst (s _ _ q))) (n := "list") (b := isT t (.lst false _)) ((k_list t).trans (by cases t <;> rfl)) (by simpa [fIsT] using e)
  | @lstO a vs ds0 ps q r => exact fin rfl (.base (.lst q)) (n := "list") (b := isT t (.lst true ds0)) ((k_list t).trans (by cases t <;> rfl)) (by simpa [fIsT] using e)
  | tupS q r z =>
    have q' := sqt_mono s q
    rcases q' with (q' | ⟨ob, q'⟩) | ⟨ob, its, n, q1, q2, _⟩
    · exact fin rfl (.base (.tup q')) (n := "tuple") (b := isT t (.tup false _)) ((k_tuple t).trans (by cases t <;> rfl)) (by simpa [fIsT] using e)
    · exact fin rfl (.fTuple q') (n := "tuple") (b := isT t (.tup false _)) ((k_tuple t).trans (by cases t <;> rfl)) (by simpa [fIsT] using e)
    · exact fin rfl (.kTuple q1 q2) (n := "tuple") (b := isT t (.tup false _)) ((k_tuple t).trans (by cases t <;> rfl)) (by simpa [fIsT] using e)
  | @tupO a vs ds0 ps q r => exact fin rfl (.base (.tup q)) (n := "tuple") (b := isT t (.tup true ds0)) ((k_tuple t).trans (by cases t <;> rfl)) (by simpa [fIsT] using e)
theorem de_isT (t : Ty) {x y : Str} {py : Pos} (ht : PE X b (tC (.ty t.nm))) (hg : Gl X "isinstance") (hm : X.mg "isinstance" = none) (ha : DO cl X W a f)
    (hs : starEach [a, b] X.env = (false, eval a X.env) :: starEach [b] X.env := by rfl) (hs2 : starEach [b] X.env = [(false, eval b X.env)] := by rfl) (hpl : (backTo pos (starEach [b] X.env)).any (·.1) = false := by rfl) : DE cl X W (.Call (.Name "isinstance" p) [a, b] [] pos) (e1 (fIsT t) f) :=
  de_1 (r := fun v => rIsi X.K [v, .ty t.nm]) (fun ta pa => pe_callB call_isi hg hm (by decide +kernel) (pa_cons pa (pa_cons ht pa_nil hs2) hs) (by decide) (by decide) hs hpl) (o_isT t) ha
end
end G
set_option maxHeartbeats 1000000
namespace G
open PySem L2
section
variable {cl : Cl} {X : Cx} {W : WX} {e a b c : Expr} {es : List Expr} {f g h : E} {fs : List E} {pos p apos : Pos}
theorem de_m0 {id : String} {name : Str} {r : V → List V → Hp → VK → Prop} {F : D → Option D} (slot : Slot "str" name id) (ty : typeOf (.builtin id) = pure (.type "method_descriptor")) (rule : MtR X id r)
    (o : Op1 X (fun v H Q => (∃ a, v = .str a) ∧ r v [] H Q) F) (ha : DO cl X W a f)
    (hbase : attributeBase a name X.env (eval a X.env) = eval a X.env := by rfl) (hline : (apos.endLine == pos.line) = true := by rfl) : DE cl X W (.Call (.Attribute a name apos) [] [] pos) (e1 F f) :=
  de_1 (r := fun v H Q => (∃ a, v = .str a) ∧ r v [] H Q) (fun ta pa => pe_m0 slot ty rule pa hbase hline) o ha
theorem de_m1 {id : String} {name : Str} {r : V → List V → Hp → VK → Prop} {F : D → D → Option D} (slot : Slot "str" name id) (ty : typeOf (.builtin id) = pure (.type "method_descriptor")) (rule : MtR X id r)
    (o : Op2 X (fun v u => r v [u]) F) (ha : DO cl X W a f) (hb : DO cl X W b g)
    (hs : starEach [b] X.env = [(false, eval b X.env)] := by rfl) (hbase : attributeBase a name X.env (eval a X.env) = eval a X.env := by rfl) (hline : (apos.endLine == pos.line) = true := by rfl) : DE cl X W (.Call (.Attribute a name apos) [b] [] pos) (e2s F f g) := by
  obtain ⟨ta, pa, qa⟩ := ha.pf
  obtain ⟨tb, pb, qb⟩ := hb.pf
  refine ⟨_, pe_m1 slot ty rule pa pb hs hbase hline, fun σ ρ S H Q l s z => ?_⟩
  refine qa σ ρ S H _ l s ((post_bind z).imp ?_)
  rintro v H1 ⟨d, S1, qs, e, g1, rp, z1⟩
  cases hS : d.isS with
  | false => simp only [hS] at z1; exact z1.elim
  | true =>
    simp only [hS, if_true] at z1
    refine ⟨?_, ?_⟩
    · cases rp <;> simp [D.isS] at hS
      exact ⟨_, rfl⟩
    · refine qb σ ρ S1 H1 _ (l.mono g1) g1.sh ((post_bind z1).imp ?_)
      rintro u H2 ⟨d2, S2, rs, e2, g2, rp2, z2⟩
      cases k : F d d2 with
      | none => rw [k] at z2; exact z2.elim
      | some d' =>
        rw [k] at z2
        exact o S2 H2 v u d d2 d' qs rs Q g2.sh (rp.mono g2.ss g2.hh) rp2 k z2
theorem o_upper : Op1 X (fun v H Q => (∃ a, v = .str a) ∧ ((fun x xs H Q => ∃ a, x = .str a ∧ xs = [] ∧ a.length ≤ 5592405 ∧ Q (.str (Txt.upper a)) H) : V → List V → Hp → VK → Prop) v [] H Q) fUpper := by
  intro S H x dx d ps Q s rx e k
  unfold fUpper at e
  split at e
  · split at e
    · rename_i z h
      simp only [Bool.and_eq_true, List.all_eq_true, decide_eq_true_eq] at h
      cases e
      cases rx with | str _ ha =>
      refine ⟨⟨_, rfl⟩, _, rfl, rfl, by rw [tS_len]; exact h.2, ?_⟩
      rw [PyProof.Rows.upper_ascii (x := tS z) h.1]
      have e : (⟨(tS z).cps.map PyProof.Rows.up1⟩ : Str) = tS (z.map upC) := TL.ext_tl (by
        simp only [tS, TL.tl, List.map_toArray]
        refine List.map_congr_left fun c hc => ?_
        unfold PyProof.Rows.up1 upC
        rfl)
      rw [e]
      exact newV s (.str _ fun c hc => by
        obtain ⟨c0, h0, rfl⟩ := List.mem_map.mp hc
        have := h.1 c0 h0
        unfold upC
        split <;> omega) k
    · cases e
  · cases e
theorem strs_map (l : List Tx) (h : ∀ b ∈ l, ∀ c ∈ b, c < 0x110000) {K : PySem.W.Frag} {S H : Hp} : RpAll K S H ((l.map tS).map V.str) (l.map D.str) [] ∧ shs (l.map D.str) = true := by
  induction l with
  | nil => exact ⟨.nil, rfl⟩
  | cons a l ih =>
    obtain ⟨h1, h2⟩ := ih fun b hb => h b (List.mem_cons_of_mem _ hb)
    exact ⟨.cons (.str a (h a (List.mem_cons_self ..))) h1, by simpa [shs, D.sh] using h2⟩
theorem splT_eq (S : Tx) : ∀ (k : Nat) (acc l : Tx), splT S k acc l = TL.spl S k acc l
  | k, acc, [] => by cases k <;> rfl
  | 0, acc, c :: r => by
    show (if preT S (c :: r) = true then acc :: splT S (S.length - 1) [] r else splT S 0 (acc ++ [c]) r) = (if TL.pre S (c :: r) = true then acc :: TL.spl S (S.length - 1) [] r else TL.spl S 0 (acc ++ [c]) r)
    rw [splT_eq S _ [] r, splT_eq S 0 _ r, pre_eq]
  | k + 1, acc, _ :: r => splT_eq S k acc r
theorem splT_mem (S : Tx) : ∀ (l : Tx) (k : Nat) (acc : Tx) (b : Tx), b ∈ splT S k acc l → ∀ c ∈ b, c ∈ acc ∨ c ∈ l
  | [], k, acc, b, hb, c, hc => by
    have : b = acc := by cases k <;> simpa [splT] using hb
    subst this; exact .inl hc
  | x :: r, 0, acc, b, hb, c, hc => by
    unfold splT at hb
    split at hb
    · rcases List.mem_cons.mp hb with rfl | hb
      · exact .inl hc
      · rcases splT_mem S r _ [] b hb c hc with h | h
        · cases h
        · exact .inr (List.mem_cons_of_mem _ h)
    · rcases splT_mem S r 0 (acc ++ [x]) b hb c hc with h | h
      · rcases List.mem_append.mp h with h | h
        · exact .inl h
        · have : c = x := by simpa using h
          subst this
          exact .inr (List.mem_cons_self ..)
      · exact .inr (List.mem_cons_of_mem _ h)
  | x :: r, k + 1, acc, b, hb, c, hc => by
    rcases splT_mem S r k acc b hb c hc with h | h
    · exact .inl h
    · exact .inr (List.mem_cons_of_mem _ h)
theorem o_split : Op2 X (fun v u => ((fun x xs H Q => ∃ a b : Str, x = .str a ∧ xs = [.str b] ∧ (b.length == 0) = false ∧ a.length + 2 ≤ sizeLine ∧ rNewStrs (Txt.split a b) H Q) : V → List V → Hp → VK → Prop) v [u]) fSplit := by
  intro S H x y dx dy d ps qs Q s rx ry e k
  unfold fSplit at e
  split at e
  · split at e
    · rename_i za zb h
      simp only [Bool.and_eq_true, decide_eq_true_eq] at h
      cases e
      cases rx with | str _ ha =>
      cases ry with | str _ hb =>
      refine ⟨_, _, rfl, rfl, ?_, by rw [tS_len, line_eq]; exact h.2, fun p hp => ?_⟩
      · rw [tS_len]
        cases zb with
        | nil => exact absurd rfl h.1.1
        | cons _ _ => rfl
      · have e1 : Txt.split (tS za) (tS zb) = (splT zb 0 [] za).map tS := by
          refine TL.map_tl_inj ?_
          rw [TL.split_spl _ _ (by simpa [tS, TL.tl] using h.1.1) (TL.kind_ok (by simpa [tS] using h.1.2)), List.map_map]
          have : (TL.tl ∘ tS) = id := by funext z; simp [tS, TL.tl]
          rw [this, List.map_id, splT_eq]
          simp [tS, TL.tl]
        rw [e1]
        have hm := strs_map (splT zb 0 [] za) (fun b hb c hc => by
          rcases splT_mem zb za 0 [] b hb c hc with z | z
          · cases z
          · exact ha c z) (K := X.K) (S := S) (H := H)
        exact newL s hm.1 hm.2 hp k
    · cases e
  · cases e
theorem joinT_eq (S : Tx) : ∀ l : List Tx, joinT S l = TL.joinL S l
  | [] => rfl
  | [_] => rfl
  | p :: q :: r => by
    show p ++ (S ++ joinT S (q :: r)) = p ++ (S ++ TL.joinL S (q :: r))
    rw [joinT_eq S (q :: r)]
theorem joinT_mem (S : Tx) : ∀ (l : List Tx) (c : Nat), c ∈ joinT S l → c ∈ S ∨ ∃ p ∈ l, c ∈ p
  | [], c, h => by simp [joinT] at h
  | [p], c, h => .inr ⟨p, by simp, h⟩
  | p :: q :: r, c, h => by
    rcases List.mem_append.mp h with h | h
    · exact .inr ⟨p, by simp, h⟩
    · rcases List.mem_append.mp h with h | h
      · exact .inl h
      · rcases joinT_mem S (q :: r) c h with h | ⟨p', hp, h⟩
        · exact .inl h
        · exact .inr ⟨p', List.mem_cons_of_mem _ hp, h⟩
theorem o_join : Op2 X (fun v u => ((fun x xs H Q => ∃ a p, ∃ ys : List Str, x = .str a ∧ xs = [.ref p] ∧ (SqL X.K H p (ys.map V.str) ∨ SqT X.K H p (ys.map V.str)) ∧
    (ys.map (·.length)).sum + ys.length * a.length ≤ 16777216 ∧ Q (.str (Txt.join a ys)) H) : V → List V → Hp → VK → Prop) v [u]) fJoin := by
  intro S H x y dx dy d ps qs Q s rx ry e k
  have fin : ∀ {za : Tx} {ys : List Tx} {pa : Addr}, x = .str (tS za) → y = .ref pa → (∀ c ∈ za, c < 0x110000) → (∀ b ∈ ys, ∀ c ∈ b, c < 0x110000) → (SqL X.K H pa ((ys.map tS).map V.str) ∨ SqT X.K H pa ((ys.map tS).map V.str)) →
      (ys.map List.length).sum + ys.length * za.length ≤ LINE → D.str (joinT za ys) = d → ∃ a p, ∃ ys : List Str, x = .str a ∧ [y] = [V.ref p] ∧ (SqL X.K H p (ys.map V.str) ∨ SqT X.K H p (ys.map V.str)) ∧
    (ys.map (·.length)).sum + ys.length * a.length ≤ 16777216 ∧ Q (.str (Txt.join a ys)) H := by
    intro za ys pa ex ey h1 h2 h3 h4 h5
    subst ex ey h5
    refine ⟨_, pa, ys.map tS, rfl, rfl, h3, ?_, ?_⟩
    · rw [List.map_map, List.length_map, tS_len]
      have : ((fun x : Str => x.length) ∘ tS) = List.length := by funext z; exact tS_len z
      rw [this]; exact h4
    · have e : Txt.join (tS za) (ys.map tS) = tS (joinT za ys) := TL.ext_tl (by
        rw [TL.join_eq, TL.tl_join, List.map_map]
        have : (TL.tl ∘ tS) = id := by funext z; simp [tS, TL.tl]
        rw [this, List.map_id, joinT_eq]
        simp [tS, TL.tl])
      rw [e]
      exact newV s (.str _ fun c hc => (joinT_mem za ys c hc).elim (h1 c) (fun ⟨p, hp, hc⟩ => h2 p hp c hc)) k
  unfold fJoin at e
  split at e
  · cases rx with | str _ ha =>
    obtain ⟨ys, hy, e⟩ := Option.bind_eq_some_iff.mp e
    split at e
    · rename_i hl
      cases e
      obtain ⟨l1, v1, q1, rfl, h1, r1⟩ := ry.lst s
      obtain ⟨e1, e2⟩ := rp_strs r1 hy
      subst e1
      exact fin rfl rfl ha e2 (.inl (.inl (.inl h1))) hl rfl
    · cases e
  · cases rx with | str _ ha =>
    obtain ⟨ys, hy, e⟩ := Option.bind_eq_some_iff.mp e
    split at e
    · rename_i hl
      cases e
      obtain ⟨l1, v1, q1, rfl, h1, r1⟩ := ry.tup s
      obtain ⟨e1, e2⟩ := rp_strs r1 hy
      subst e1
      exact fin rfl rfl ha e2 (.inr h1) hl rfl
    · cases e
  · cases e
theorem sub_at (a b : Tx) (i : Nat) : Builtin.Str.subAt (tS b) (tS a) i = preT a (b.drop i) := by
  unfold Builtin.Str.subAt preT
  rw [tS_len]
  have h : ((tS b).cps.extract i (i + a.length) = (tS a).cps) ↔ ((b.drop i).take a.length = a) := by
    show (b.toArray.extract i (i + a.length)) = a.toArray ↔ _
    rw [← Array.toList_inj]
    simp only [List.extract_toArray, List.extract_eq_take_drop]
    rw [show i + a.length - i = a.length by omega]
  by_cases k : (b.drop i).take a.length = a
  · rw [beq_iff_eq.mpr k, beq_iff_eq.mpr (h.mpr k)]
  · rw [beq_eq_false_iff_ne.mpr k, beq_eq_false_iff_ne.mpr fun z => k (h.mp z)]
theorem starts_eq (a b : Tx) : Txt.startswith (tS a) (tS b) = preT b a := by
  unfold Txt.startswith
  rw [sub_at, List.drop_zero, tS_len, tS_len]
  cases h : preT b a with
  | false => rw [Bool.and_false]
  | true =>
    have : a.take b.length = b := by simpa [preT] using h
    have := congrArg List.length this
    rw [List.length_take] at this
    rw [Bool.and_true, decide_eq_true_eq]; omega
theorem o_starts : Op2 X (fun v u => ((fun x xs H Q => ∃ a b, x = .str a ∧ xs = [.str b] ∧ Q (.bl (Txt.startswith a b)) H) : V → List V → Hp → VK → Prop) v [u]) fStarts := by
  intro S H x y dx dy d ps qs Q s rx ry e k
  unfold fStarts at e
  split at e
  · cases e
    cases rx with | str _ ha =>
    cases ry with | str _ hb =>
    exact ⟨_, _, rfl, rfl, by rw [starts_eq]; exact newV s (.bl _) k⟩
  · cases e
theorem ends_eq (a b : Tx) : Txt.endswith (tS a) (tS b) = preT b.reverse a.reverse := by
  unfold Txt.endswith
  rw [sub_at, tS_len, tS_len]
  unfold preT
  rw [List.length_reverse, List.take_reverse]
  by_cases hl : b.length ≤ a.length
  · rw [decide_eq_true (by omega), Bool.true_and, List.take_of_length_le (by rw [List.length_drop]; omega)]
    by_cases k : a.drop (a.length - b.length) = b
    · rw [k]; simp
    · rw [beq_eq_false_iff_ne.mpr k, beq_eq_false_iff_ne.mpr fun z => k (by simpa using congrArg List.reverse z)]
  · rw [decide_eq_false (by omega), Bool.false_and]
    symm
    rw [beq_eq_false_iff_ne]
    intro z
    have := congrArg List.length z
    rw [List.length_reverse, List.length_reverse, List.length_drop] at this
    omega
theorem o_ends : Op2 X (fun v u => ((fun x xs H Q => ∃ a b, x = .str a ∧ xs = [.str b] ∧ Q (.bl (Txt.endswith a b)) H) : V → List V → Hp → VK → Prop) v [u]) fEnds := by
  intro S H x y dx dy d ps qs Q s rx ry e k
  unfold fEnds at e
  split at e
  · cases e
    cases rx with | str _ ha =>
    cases ry with | str _ hb =>
    exact ⟨_, _, rfl, rfl, by rw [ends_eq]; exact newV s (.bl _) k⟩
  · cases e
end
end G
set_option maxHeartbeats 1000000
namespace G
open PySem L2
section
variable {cl : Cl} {X : Cx} {W : WX} {e a b c : Expr} {es : List Expr} {f g h : E} {fs : List E} {pos p p2 : Pos}
theorem de_chain {op op' : CmpOp} {r r' : R2} {F F' : D → D → Option D} (ho : OpR X (compareOp op) r) (ho' : OpR X (compareOp op') r') (o : Op2 X r F) (o' : Op2 X r' F') (ha : DO cl X W a f) (hb : DO cl X W b g) (hc : DO cl X W c h)
    (p : ∀ ta tb tc, PE X a ta → PE X b tb → PE X c tc → PE X e (tChain r r' ta tb tc)) : DE cl X W e (eChain F F' f g h) := by
  obtain ⟨ta, pa, qa⟩ := ha.pf
  obtain ⟨tb, pb, qb⟩ := hb.pf
  obtain ⟨tc, pc, qc⟩ := hc.pf
  refine ⟨_, p ta tb tc pa pb pc, fun σ ρ S H Q l s z => ?_⟩
  refine qa σ ρ S H _ l s ((post_bind z).imp ?_)
  rintro v H1 ⟨d, S1, qs, e, g1, rp, z1⟩
  refine qb σ ρ S1 H1 _ (l.mono g1) g1.sh ((post_bind z1).imp ?_)
  rintro u H2 ⟨d2, S2, rs, e2, g2, rp2, z2⟩
  cases k : F d d2 with
  | none => rw [k] at z2; exact z2.elim
  | some d' =>
    rw [k] at z2
    refine o S2 H2 v u d d2 d' qs rs _ g2.sh (rp.mono g2.ss g2.hh) rp2 k ?_
    intro w S3 H3 ps g3 f3 rp3
    have z3 := PostE.on g3 z2
    cases d' with
    | bl kk =>
      cases rp3
      refine ⟨kk, rfl, ?_⟩
      cases kk with
      | true =>
        refine qc σ ρ S3 H3 _ ((l.mono g1).mono (g2.trans g3)) g3.sh ((post_bind (show PostE cl X.K W σ S3 H3 ((h ρ).bind fun z => Res.of (F' d2 z)) Q from z3)).imp ?_)
        rintro w H4 ⟨d4, S4, ts, e4, g4, rp4, z4⟩
        cases k4 : F' d2 d4 with
        | none => rw [k4] at z4; exact z4.elim
        | some d5 =>
          rw [k4] at z4
          exact o' S4 H4 u w d2 d4 d5 rs ts Q g4.sh (rp2.mono (g3.trans g4).ss (g3.trans g4).hh) rp4 k4 z4
      | false => exact z3 _ S3 H3 [] (Grow.refl g3.sh) Fresh.nil (.bl false)
    | _ => exact z3.elim
end
section
variable {cl : Cl} {X : Cx} {W : WX} {e a b c lo hi : Expr} {es : List Expr} {f g h : E} {fs : List E} {pos p p2 : Pos}
theorem de_slLo (ha : DO cl X W a f) (hl : DO cl X W lo g) : DE cl X W (.Subscript a (.Slice (some lo) none none p2) pos) (eSlLo f g) := by
  obtain ⟨ta, pa, qa⟩ := ha.pf
  obtain ⟨tb, pb, qb⟩ := hl.pf
  refine ⟨_, pe_slice sl_D pa (po_some pb) po_none, fun σ ρ S H Q l s z => ?_⟩
  refine qa σ ρ S H _ l s ((post_bind z).imp ?_)
  rintro v H1 ⟨d, S1, qs, e, g1, rp, z1⟩
  refine qb σ ρ S1 H1 _ (l.mono g1) g1.sh ((post_bind z1).imp ?_)
  rintro u H2 ⟨d2, S2, rs, e2, g2, rp2, z2⟩
  cases d2 with
  | int i =>
    cases rp2
    refine ⟨i, rfl, ?_⟩
    cases k : cutD d (some i) none with
    | none => simp only [k] at z2; exact z2.elim
    | some d' => simp only [k] at z2; exact o_sl S2 H2 v d d' (some i) none qs Q g2.sh (rp.mono g2.ss g2.hh) k z2
  | _ => exact z2.elim
theorem de_slHi (ha : DO cl X W a f) (hl : DO cl X W hi g) : DE cl X W (.Subscript a (.Slice none (some hi) none p2) pos) (eSlHi f g) := by
  obtain ⟨ta, pa, qa⟩ := ha.pf
  obtain ⟨tb, pb, qb⟩ := hl.pf
  refine ⟨_, pe_slice sl_D pa po_none (po_some pb), fun σ ρ S H Q l s z => ?_⟩
  refine qa σ ρ S H _ l s ((post_bind z).imp ?_)
  rintro v H1 ⟨d, S1, qs, e, g1, rp, z1⟩
  refine qb σ ρ S1 H1 _ (l.mono g1) g1.sh ((post_bind z1).imp ?_)
  rintro u H2 ⟨d2, S2, rs, e2, g2, rp2, z2⟩
  cases d2 with
  | int i =>
    cases rp2
    refine ⟨i, rfl, ?_⟩
    cases k : cutD d none (some i) with
    | none => simp only [k] at z2; exact z2.elim
    | some d' => simp only [k] at z2; exact o_sl S2 H2 v d d' none (some i) qs Q g2.sh (rp.mono g2.ss g2.hh) k z2
  | _ => exact z2.elim
theorem de_slLH (ha : DO cl X W a f) (hl : DO cl X W lo g) (hh : DO cl X W hi h) : DE cl X W (.Subscript a (.Slice (some lo) (some hi) none p2) pos) (eSlLH f g h) := by
  obtain ⟨ta, pa, qa⟩ := ha.pf
  obtain ⟨tb, pb, qb⟩ := hl.pf
  obtain ⟨tc, pc, qc⟩ := hh.pf
  refine ⟨_, pe_slice sl_D pa (po_some pb) (po_some pc), fun σ ρ S H Q l s z => ?_⟩
  refine qa σ ρ S H _ l s ((post_bind z).imp ?_)
  rintro v H1 ⟨d, S1, qs, e, g1, rp, z1⟩
  refine qb σ ρ S1 H1 _ (l.mono g1) g1.sh ((post_bind z1).imp ?_)
  rintro u H2 ⟨d2, S2, rs, e2, g2, rp2, z2⟩
  cases d2 with
  | int i =>
    cases rp2
    refine ⟨i, rfl, ?_⟩
    refine qc σ ρ S2 H2 _ ((l.mono g1).mono g2) g2.sh ((post_bind z2).imp ?_)
    rintro w H3 ⟨d3, S3, ts, e3, g3, rp3, z3⟩
    cases d3 with
    | int j =>
      cases rp3
      refine ⟨j, rfl, ?_⟩
      cases k : cutD d (some i) (some j) with
      | none => simp only [k] at z3; exact z3.elim
      | some d' => simp only [k] at z3; exact o_sl S3 H3 v d d' (some i) (some j) qs Q g3.sh (rp.mono (g2.trans g3).ss (g2.trans g3).hh) k z3
    | _ => exact z3.elim
  | _ => exact z2.elim
def spD (cl : Cl) (K : PySem.W.Frag) (n : Nat) (den : List D → Res D) : Sp := fun vs H Q E => ∃ S ds, Same S H ∧ RpAll K S H vs ds [] ∧ shs ds = true ∧ ds.length = n ∧ match den ds with
  | .no => False
  | .ok d => ∀ v S' H' qs, Grow S H S' H' → Fresh H S' qs → Rp K S' H' v d qs → Q v H'
  | .ex c fs => ∀ S' H' cls dd, Grow S H S' H' → XR cl S' c fs cls dd → E cls dd H'
theorem eArgs_len {ρ : Env} : ∀ {fs : List E} {ds : List D}, eArgs fs ρ = .ok ds → ds.length = fs.length
  | [], ds, k => by cases k; rfl
  | f :: fs, ds, k => by
    unfold eArgs at k
    cases k1 : f ρ <;> simp [k1, Res.bind] at k
    cases k2 : eArgs fs ρ <;> simp [k2] at k
    subst k
    simp [eArgs_len k2]
theorem frzs_len (ds : List D) : (frzs ds).length = ds.length := by rw [frzs_map, List.length_map]
theorem de_call {k n : Nat} {fA : Addr} {fd : FuncData} {ps : List Str} {x : Str} {den : List D → Res D} (F : FnOk X.prog X.w X.K X.mg X.base (L2.CX X.prog X.w) k fA fd ps (spD cl X.K n den)) (hr : Room k X.A) (hg : Gl X x) (hm : X.mg x = some (.ref fA)) (hk : PySem.W.keepIn X.K (.ref fA) = true) (hb : Binds X.K fd ps [])
    (tk : Takes X W) (ha : DA cl X W (e :: es) fs) (hn : fs.length = n := by rfl) (hdb : (x == ("__debug__" : Str)) = false := by decide) (he : starEach (e :: es) X.env = (false, eval e X.env) :: starEach es X.env := by rfl) (hpl : (backTo pos (starEach es X.env)).any (·.1) = false := by rfl) :
    DE cl X W (.Call (.Name x p) (e :: es) [] pos) (eCall den fs) := by
  obtain ⟨t, pt, q⟩ := ha.pf
  refine ⟨_, pe_callS F hr hg hm hk hb (fun σ => passAt tk σ) pt hdb he hpl, fun σ ρ S H Q l s z => q σ ρ S H _ l s ?_⟩
  have z0 := post_args z
  cases ka : eArgs fs ρ with
  | no => rw [ka] at z0; exact z0
  | ex c fs => rw [ka] at z0; exact z0
  | ok ds =>
    rw [ka] at z0
    intro vs S1 H1 qs g1 ra
    obtain ⟨ds', S1', qs', e, g1', ra', z1⟩ := z0 vs S1 H1 qs g1 ra
    cases e
    refine ⟨fun a => match S1' a with | some o => some o | none => if a ∈ qs' then H1 a else none, frzs ds, ?_, ?_, frzs_shs ds, by rw [frzs_len, eArgs_len ka, hn], ?_⟩
    · intro b o hb
      cases hS : S1' b with
      | some u => simp only [hS] at hb; cases hb; exact g1'.sh b _ hS
      | none =>
        simp only [hS] at hb
        by_cases hq : b ∈ qs'
        · simpa only [hq, if_true] using hb
        · simp only [hq, if_false] at hb; cases hb
    · refine ra'.frz (fun b o hb => by simp only [hb]) (fun b hb o ho => ?_) H1
      cases hS : S1' b with
      | some u =>
        have := g1'.sh b u hS
        rw [ho] at this; cases this
        rfl
      | none => simp only [hb, if_true]; exact ho
    · cases kd : den (frzs ds) with
      | no => simp only [kd, Res.bind] at z1; exact z1
      | ex c fs' =>
        simp only [kd, Res.bind] at z1
        intro S' H' cls dd g x
        have hdd : ∀ b, dd = some b → ∃ gs, S' b = some (.xd gs) := fun b hb => xr_dict x b hb
        have hnew : ∀ b, dd = some b → S1' b = none → H1 b = none := fun b hb h1 => by
          obtain ⟨gs, hg⟩ := hdd b hb
          by_cases hq : b ∈ qs'
          · exfalso
            obtain ⟨u, hu⟩ := ra'.there b hq
            have e1 : S' b = some u := g.ss b u (by simp only [h1, hq, if_true]; exact hu)
            rw [hg] at e1
            cases e1
            exact ra'.noxd b hq hu
          · exact g.nw b _ hg (by simp only [h1, hq, if_false])
        have hkeep : ∀ b o, dd = some b → S1' b = some o → S' b = some o := fun b o hb h1 => g.ss b o (by simp only [h1])
        refine z1 (fun b => if dd = some b then S' b else S1' b) H' cls dd ⟨g.hh, fun b o h => ?_, fun b o h => ?_, fun b o h1 h2 => ?_⟩ (xr_at x fun b hb => by simp only [hb, if_true])
        · by_cases hb : dd = some b
          · simp only [hb, if_true]; exact hkeep b o hb h
          · simp only [hb, if_false]; exact h
        · by_cases hb : dd = some b
          · simp only [hb, if_true] at h; exact g.sh b o h
          · simp only [hb, if_false] at h; exact (g1'.sh.trans g.hh) b o h
        · by_cases hb : dd = some b
          · exact hnew b hb h2
          · simp only [hb, if_false] at h1; rw [h1] at h2; cases h2
      | ok r =>
        simp only [kd, Res.bind] at z1
        cases ho : (r.ow || shs ds) with
        | false => simp only [ho] at z1; exact z1.elim
        | true =>
          simp only [ho, if_true] at z1
          intro v S' H' qs2 g f rp
          cases hw : r.ow with
          | true =>
            refine z1 v S1' H' qs2 ⟨g.hh, Same.refl _, g1'.sh.trans g.hh, fun a o h1 h2 => by rw [h1] at h2; cases h2⟩ ⟨f.1, fun q hq => ⟨(f.2 q hq).1, none_back g1'.sh (f.2 q hq).1⟩⟩ (rp.ow S1' hw)
          | false =>
            rw [hw, Bool.false_or] at ho
            have e0 := (ra'.sh ho).1
            subst e0
            have eS : (fun a => match S1' a with | some o => some o | none => if a ∈ ([] : List Addr) then H1 a else none) = S1' := by
              funext a
              cases S1' a <;> simp
            rw [eS] at g
            exact z1 v S' H' qs2 g f rp
theorem de_call0 {k : Nat} {fA : Addr} {fd : FuncData} {x : Str} {den : List D → Res D} (F : FnOk X.prog X.w X.K X.mg X.base (L2.CX X.prog X.w) k fA fd [] (spD cl X.K 0 den)) (hr : Room k X.A) (hg : Gl X x) (hm : X.mg x = some (.ref fA)) (hk : PySem.W.keepIn X.K (.ref fA) = true) (hb : Binds X.K fd [] [])
    (hdb : (x == ("__debug__" : Str)) = false := by decide) : DE cl X W (.Call (.Name x p) [] [] pos) (eCall0 den) := by
  refine ⟨_, pe_call0 F hr hg hm hk hb .nil passL hdb, fun σ ρ S H Q l s z => ?_⟩
  refine ⟨S, [], s, .nil, rfl, rfl, ?_⟩
  unfold eCall0 at z
  cases kd : den [] with
  | no => rw [kd] at z; exact z
  | ex c fs => rw [kd] at z; exact z.elim
  | ok d => rw [kd] at z; exact z
end
end G
set_option maxHeartbeats 1000000
namespace G
open PySem L2
def PostI (shr : Bool) (cl : Cl) (K : PySem.W.Frag) (W : WX) (σ : L2.St) (S H : Hp) (r : Res (List D)) (R : It → Hp → Prop) : Prop := match r with
  | .no => False
  | .ok ds => ∀ (J : It) (S' H' : Hp) (G : Hp → Prop) (Y : Nat → Hp → V → Hp → Prop), Grow S H S' H' → Walk J ds.length G Y → (∀ H2, Same (if shr then S' else H') H2 → G H2) →
      (∀ i H2 x H3 S2 d, Same (if shr then S' else H') H2 → Same S' S2 → Same S2 H2 → ds[i]? = some d → Y i H2 x H3 → Same H2 H3 ∧ ∃ qs, Rp K S2 H3 x d qs) → R J H'
  | .ex c fs => ∀ S' H' cls dd, Grow S H S' H' → XR cl S' c fs cls dd → W cls dd σ H'
structure DI (shr : Bool) (cl : Cl) (X : Cx) (W : WX) (tg it : Expr) (f : I) : Prop where
  pf : ∃ wi : TI, PI X tg it wi ∧ ∀ (σ : L2.St) (ρ : Env) (S H : Hp) (R : It → Hp → Prop), Look X.K S H σ ρ → Same S H → PostI shr cl X.K W σ S H (f ρ) R → wi σ H R
section
variable {cl : Cl} {K : PySem.W.Frag} {W : WX} {σ : L2.St} {S H S1 H1 : Hp} {r : Res D} {shr : Bool} {R : It → Hp → Prop} {rs : Res (List D)}
theorem PostI.on (g : Grow S H S1 H1) (h : PostI shr cl K W σ S H rs R) : PostI shr cl K W σ S1 H1 rs R := by
  cases rs with
  | no => exact h
  | ok ds => exact fun J S' H' G Y g' => h J S' H' G Y (g.trans g')
  | ex c fs => exact fun S' H' cls dd g' x => h S' H' cls dd (g.trans g') x
theorem post_bindI {g : D → Res (List D)} (h : PostI shr cl K W σ S H (r.bind g) R) :
    PostO cl K W σ S H r (fun v H1 => ∃ d S1 qs, r = .ok d ∧ Grow S H S1 H1 ∧ Rp K S1 H1 v d qs ∧ PostI shr cl K W σ S1 H1 (g d) R) := by
  cases r with
  | no => exact h
  | ok d => exact fun v S' H' qs g' rp => ⟨d, S', qs, rfl, g', rp, PostI.on g' h⟩
  | ex c fs => exact h
end
section
variable {cl : Cl} {X : Cx} {W : WX} {tg e a b c : Expr} {es : List Expr} {f g h : E} {fs : List E} {pos p : Pos}
theorem di_list (ha : DO cl X W a f) : DI false cl X W tg a (iLst f) := by
  obtain ⟨ta, pa, qa⟩ := ha.pf
  refine ⟨_, pi_list pa, fun σ ρ S H R l s z => ?_⟩
  refine qa σ ρ S H _ l s ((post_bindI z).imp ?_)
  rintro v H1 ⟨d, S1, qs, e, g1, rp, z1⟩
  cases d with
  | lst o xs =>
    obtain ⟨l1, v1, q1, rfl, h1, r1⟩ := rp.lst g1.sh
    refine ⟨l1, rfl, ⟨v1, .inl (.inl h1)⟩, z1 _ S1 H1 (fun H => SqL X.K H l1 v1) (YAt v1) (Grow.refl g1.sh) (by rw [← r1.length]; exact walk_list) (fun H2 h2 => .inl (.inl (h2 _ _ h1))) ?_⟩
    rintro i H2 x H3 S2 d s2 s3 s4 hd ⟨rfl, hx⟩
    obtain ⟨v, rs, hv, rv, _⟩ := r1.get hd
    rw [hx] at hv; cases hv
    exact ⟨Same.refl _, rs, rv.mono s3 s2⟩
  | scr ns =>
    cases rp with | scr _ q =>
    refine ⟨_, rfl, ⟨_, sql_mono g1.sh q⟩, z1 _ S1 H1 (fun H => SqL X.K H _ (ns.map V.int)) (YAt (ns.map V.int)) (Grow.refl g1.sh) ?_ (fun H2 h2 => sql_mono h2 (sql_mono g1.sh q)) ?_⟩
    · have : (ns.map D.int).length = (ns.map V.int).length := by rw [List.length_map, List.length_map]
      rw [this]; exact walk_list
    · rintro i H2 x H3 S2 d s2 s3 s4 hd ⟨rfl, hx⟩
      obtain ⟨v, rs, hv, rv, _⟩ := (rp_intmap (K := X.K) (S := S2) (H := H3) ns).1.get hd
      rw [hx] at hv; cases hv
      exact ⟨Same.refl _, rs, rv⟩
  | _ => exact z1.elim
theorem di_listS (ha : DO cl X W a f) : DI true cl X W tg a (iLstS f) := by
  obtain ⟨ta, pa, qa⟩ := ha.pf
  refine ⟨_, pi_list pa, fun σ ρ S H R l s z => ?_⟩
  refine qa σ ρ S H _ l s ((post_bindI z).imp ?_)
  rintro v H1 ⟨d, S1, qs, e, g1, rp, z1⟩
  cases d with
  | lst o xs =>
    cases o with
    | true => exact z1.elim
    | false =>
      cases rp with | lstS q r1 zz =>
      rename_i l1 v1
      refine ⟨l1, rfl, ⟨v1, .inl (.inl (g1.sh _ _ q))⟩, z1 _ S1 H1 (fun H => SqL X.K H l1 v1) (YAt v1) (Grow.refl g1.sh) (by rw [← r1.length]; exact walk_list) (fun H2 h2 => .inl (.inl (h2 _ _ q))) ?_⟩
      rintro i H2 x H3 S2 d s2 s3 s4 hd ⟨rfl, hx⟩
      obtain ⟨v, rs, hv, rv, _⟩ := r1.get hd
      rw [hx] at hv; cases hv
      have hsd : d.sh = true := by
        rw [shs_all, List.all_eq_true] at zz
        exact zz d (List.mem_of_getElem? hd)
      exact ⟨Same.refl _, [], ((rv.sh hsd).2 H3).mono s3 (Same.refl _)⟩
  | scr ns =>
    cases rp with | scr _ q =>
    refine ⟨_, rfl, ⟨_, sql_mono g1.sh q⟩, z1 _ S1 H1 (fun H => SqL X.K H _ (ns.map V.int)) (YAt (ns.map V.int)) (Grow.refl g1.sh) ?_ (fun H2 h2 => sql_mono h2 q) ?_⟩
    · have : (ns.map D.int).length = (ns.map V.int).length := by rw [List.length_map, List.length_map]
      rw [this]; exact walk_list
    · rintro i H2 x H3 S2 d s2 s3 s4 hd ⟨rfl, hx⟩
      obtain ⟨v, rs, hv, rv, _⟩ := (rp_intmap (K := X.K) (S := S2) (H := H3) ns).1.get hd
      rw [hx] at hv; cases hv
      exact ⟨Same.refl _, rs, rv⟩
  | _ => exact z1.elim
theorem di_tupS (ha : DO cl X W a f) : DI true cl X W tg a (iTupS f) := by
  obtain ⟨ta, pa, qa⟩ := ha.pf
  refine ⟨_, pi_tup pa, fun σ ρ S H R l s z => ?_⟩
  refine qa σ ρ S H _ l s ((post_bindI z).imp ?_)
  rintro v H1 ⟨d, S1, qs, e, g1, rp, z1⟩
  cases d with
  | tup o xs =>
    cases o with
    | true => exact z1.elim
    | false =>
      cases rp with | tupS q r1 zz =>
      rename_i l1 v1
      refine ⟨l1, rfl, ⟨v1, sqt_mono g1.sh q⟩, z1 _ S1 H1 (fun H => SqT X.K H l1 v1) (YAt v1) (Grow.refl g1.sh) (by rw [← r1.length]; exact walk_tup) (fun H2 h2 => sqt_mono h2 q) ?_⟩
      rintro i H2 x H3 S2 d s2 s3 s4 hd ⟨rfl, hx⟩
      obtain ⟨v, rs, hv, rv, _⟩ := r1.get hd
      rw [hx] at hv; cases hv
      have hsd : d.sh = true := by
        rw [shs_all, List.all_eq_true] at zz
        exact zz d (List.mem_of_getElem? hd)
      exact ⟨Same.refl _, [], ((rv.sh hsd).2 H3).mono s3 (Same.refl _)⟩
  | _ => exact z1.elim
theorem di_str {shr : Bool} (ha : DO cl X W a f) : DI shr cl X W tg a (iStr f) := by
  obtain ⟨ta, pa, qa⟩ := ha.pf
  refine ⟨_, pi_str pa, fun σ ρ S H R l s z => ?_⟩
  refine qa σ ρ S H _ l s ((post_bindI z).imp ?_)
  rintro v H1 ⟨d, S1, qs, e, g1, rp, z1⟩
  cases d with
  | str t =>
    cases rp with | str _ ht =>
    refine ⟨tS t, rfl, z1 _ S1 H1 (fun _ => True) (fun i H v H' => H' = H ∧ ∃ c, (tS t).cps[i]? = some c ∧ v = .str ⟨#[c]⟩) (Grow.refl g1.sh) ?_ (fun _ _ => trivial) ?_⟩
    · have : (t.map fun c => D.str [c]).length = (tS t).cps.size := by simp [tS]
      rw [this]; exact walk_str
    · rintro i H2 x H3 S2 d s2 s3 s4 hd ⟨rfl, c, hc, rfl⟩
      have hc' : t[i]? = some c := by simpa [tS] using hc
      rw [List.getElem?_map, hc'] at hd
      cases hd
      exact ⟨Same.refl _, [], .str [c] fun c' h' => by
        have : c' = c := by simpa using h'
        subst this
        exact ht c' (List.mem_of_getElem? hc')⟩
  | _ => exact z1.elim
theorem rangeD_get {lo : Int} {n i : Nat} {d : D} (h : (rangeD lo n)[i]? = some d) : d = .int (lo + i) := by
  unfold rangeD at h
  rw [List.getElem?_map] at h
  obtain ⟨k, hk, rfl⟩ := Option.map_eq_some_iff.mp h
  have hk' := List.getElem?_eq_some_iff.mp hk
  obtain ⟨h1, h2⟩ := hk'
  rw [List.getElem_range] at h2
  rw [h2]
theorem di_range1 {shr : Bool} (hg : Gl X "range") (hm : X.mg "range" = none) (ha : DO cl X W a f) (hs : starEach [a] X.env = [(false, eval a X.env)] := by rfl) : DI shr cl X W tg (.Call (.Name "range" p) [a] [] pos) (iRange1 f) := by
  obtain ⟨ta, pa, qa⟩ := ha.pf
  refine ⟨_, pi_range1 hg hm (pa_cons pa pa_nil hs) hs, fun σ ρ S H R l s z => ?_⟩
  refine qa σ ρ S H _ l s ((post_bindI z).imp ?_)
  rintro v H1 ⟨d, S1, qs, e, g1, rp, z1⟩
  cases d with
  | int n =>
    cases rp
    cases hf : fits62 n with
    | false => simp only [hf] at z1; exact z1.elim
    | true =>
      simp only [hf, if_true] at z1
      simp only [fits62, Bool.and_eq_true, decide_eq_true_eq] at hf
      refine ⟨n, rfl, by omega, by omega, z1 _ S1 H1 (fun _ => True) (YFn fun i => .int (0 + i)) (Grow.refl g1.sh) (by rw [show (rangeD 0 n.toNat).length = n.toNat by simp [rangeD]]; exact walk_range) (fun _ _ => trivial) ?_⟩
      rintro i H2 x H3 S2 d s2 s3 s4 hd ⟨rfl, rfl⟩
      rw [rangeD_get hd]
      exact ⟨Same.refl _, [], .int _⟩
  | _ => exact z1.elim
theorem enum_get : ∀ (xs : List D) (k : Int) (i : Nat) (d : D), (enumFrom k xs)[i]? = some d → ∃ x, xs[i]? = some x ∧ d = .tup true [.int (k + i), x]
  | [], k, i, d, h => by simp [enumFrom] at h
  | x :: xs, k, 0, d, h => by
    simp [enumFrom] at h
    exact ⟨x, rfl, by rw [← h]; simp⟩
  | x :: xs, k, i + 1, d, h => by
    obtain ⟨y, h1, h2⟩ := enum_get xs (k + 1) i d (by simpa [enumFrom] using h)
    exact ⟨y, by simpa using h1, by rw [h2]; congr 3; omega⟩
theorem enum_len : ∀ (xs : List D) (k : Int), (enumFrom k xs).length = xs.length
  | [], _ => rfl
  | x :: xs, k => by simp [enumFrom, enum_len xs (k + 1)]
theorem di_enum {elts : List Expr} {kk : Nat} {tpos : Pos} (hg : Gl X "enumerate") (hm : X.mg "enumerate" = none) (ha : DO cl X W a f) (hs : starEach [a] X.env = [(false, eval a X.env)] := by rfl) :
    DI false cl X W (.Tuple elts kk tpos) (.Call (.Name "enumerate" p) [a] [] pos) (iEnum (iLst f)) := by
  obtain ⟨ta, pa, qa⟩ := ha.pf
  refine ⟨_, pi_enum hg hm (pa_cons pa pa_nil hs) hs, fun σ ρ S H R l s z => ?_⟩
  have z' : PostI false cl X.K W σ S H ((f ρ).bind fun d => ((match d with
      | .lst _ xs => .ok xs
      | .scr ns => .ok (ns.map .int)
      | _ => .no : Res (List D))).bind fun xs => .ok (enumFrom 0 xs)) R := by
    unfold iEnum iLst at z
    cases k : f ρ with
    | no => rw [k] at z; exact z
    | ex c fs => rw [k] at z; exact z
    | ok d => rw [k] at z; exact z
  refine qa σ ρ S H _ l s ((post_bindI z').imp ?_)
  rintro v H1 ⟨d, S1, qs, e, g1, rp, z1⟩
  cases d with
  | lst o xs =>
    obtain ⟨l1, v1, q1, rfl, h1, r1⟩ := rp.lst g1.sh
    refine ⟨l1, v1, rfl, .inl (.inl h1), z1 _ S1 H1 (fun H => SqL X.K H l1 v1) _ (Grow.refl g1.sh) (by rw [enum_len, ← r1.length]; exact walk_enum) (fun H2 h2 => .inl (.inl (h2 _ _ h1))) ?_⟩
    rintro i H2 x H3 S2 d s2 s3 s4 hd ⟨T, y1, y2, rfl, hT, rfl, e1, e2⟩
    obtain ⟨dx, hdx, rfl⟩ := enum_get xs 0 i d hd
    obtain ⟨v, rs, hv, rv, _⟩ := r1.get hdx
    cases e1
    have e2' : v1[i]? = some y2 := e2
    rw [hv] at e2'; cases e2'
    exact ⟨same_new hT, _, .tupO upd_same (.cons (by rw [show (0 : Int) + (i : Int) = (i : Int) by omega]; exact .int _) (.cons ((rv.mono s3 s2).mono (Same.refl _) (same_new hT)) .nil))⟩
  | scr ns =>
    cases rp with | scr _ q =>
    refine ⟨_, _, rfl, sql_mono g1.sh q, z1 _ S1 H1 (fun H => SqL X.K H _ (ns.map V.int)) _ (Grow.refl g1.sh) (by rw [enum_len, List.length_map, ← List.length_map (f := V.int)]; exact walk_enum) (fun H2 h2 => sql_mono h2 (sql_mono g1.sh q)) ?_⟩
    rintro i H2 x H3 S2 d s2 s3 s4 hd ⟨T, y1, y2, rfl, hT, rfl, e1, e2⟩
    obtain ⟨dx, hdx, rfl⟩ := enum_get _ 0 i d hd
    obtain ⟨v, rs, hv, rv, _⟩ := (rp_intmap (K := X.K) (S := S2) (H := H2) ns).1.get hdx
    cases e1
    have e2' : (ns.map V.int)[i]? = some y2 := e2
    rw [hv] at e2'; cases e2'
    exact ⟨same_new hT, _, .tupO upd_same (.cons (by rw [show (0 : Int) + (i : Int) = (i : Int) by omega]; exact .int _) (.cons (rv.mono (Same.refl _) (same_new hT)) .nil))⟩
  | _ => exact z1.elim
theorem di_enumS {elts : List Expr} {kk : Nat} {tpos : Pos} (hg : Gl X "enumerate") (hm : X.mg "enumerate" = none) (ha : DO cl X W a f) (hs : starEach [a] X.env = [(false, eval a X.env)] := by rfl) :
    DI true cl X W (.Tuple elts kk tpos) (.Call (.Name "enumerate" p) [a] [] pos) (iEnum (iLstS f)) := by
  obtain ⟨ta, pa, qa⟩ := ha.pf
  refine ⟨_, pi_enum hg hm (pa_cons pa pa_nil hs) hs, fun σ ρ S H R l s z => ?_⟩
  have z' : PostI true cl X.K W σ S H ((f ρ).bind fun d => ((match d with
      | .lst false xs => .ok xs
      | .scr ns => .ok (ns.map .int)
      | _ => .no : Res (List D))).bind fun xs => .ok (enumFrom 0 xs)) R := by
    unfold iEnum iLstS at z
    cases k : f ρ with
    | no => rw [k] at z; exact z
    | ex c fs => rw [k] at z; exact z
    | ok d => rw [k] at z; exact z
  refine qa σ ρ S H _ l s ((post_bindI z').imp ?_)
  rintro v H1 ⟨d, S1, qs, e, g1, rp, z1⟩
  cases d with
  | lst o xs =>
    cases o with
    | true => exact z1.elim
    | false =>
      cases rp with | lstS q r1 zz =>
      rename_i l1 v1
      refine ⟨l1, v1, rfl, .inl (.inl (g1.sh _ _ q)), z1 _ S1 H1 (fun H => SqL X.K H l1 v1) _ (Grow.refl g1.sh) (by rw [enum_len, ← r1.length]; exact walk_enum) (fun H2 h2 => .inl (.inl (h2 _ _ q))) ?_⟩
      rintro i H2 x H3 S2 d s2 s3 s4 hd ⟨T, y1, y2, rfl, hT, rfl, e1, e2⟩
      obtain ⟨dx, hdx, rfl⟩ := enum_get xs 0 i d hd
      obtain ⟨v, rs, hv, rv, _⟩ := r1.get hdx
      cases e1
      have e2' : v1[i]? = some y2 := e2
      rw [hv] at e2'; cases e2'
      have hsd : dx.sh = true := by
        rw [shs_all, List.all_eq_true] at zz
        exact zz dx (List.mem_of_getElem? hdx)
      exact ⟨same_new hT, _, .tupO upd_same (.cons (by rw [show (0 : Int) + (i : Int) = (i : Int) by omega]; exact .int _) (.cons (((rv.sh hsd).2 _).mono s3 (Same.refl _)) .nil))⟩
  | scr ns =>
    cases rp with | scr _ q =>
    refine ⟨_, _, rfl, sql_mono g1.sh q, z1 _ S1 H1 (fun H => SqL X.K H _ (ns.map V.int)) _ (Grow.refl g1.sh) (by rw [enum_len, List.length_map, ← List.length_map (f := V.int)]; exact walk_enum) (fun H2 h2 => sql_mono h2 q) ?_⟩
    rintro i H2 x H3 S2 d s2 s3 s4 hd ⟨T, y1, y2, rfl, hT, rfl, e1, e2⟩
    obtain ⟨dx, hdx, rfl⟩ := enum_get _ 0 i d hd
    obtain ⟨v, rs, hv, rv, _⟩ := (rp_intmap (K := X.K) (S := S2) (H := H2) ns).1.get hdx
    cases e1
    have e2' : (ns.map V.int)[i]? = some y2 := e2
    rw [hv] at e2'; cases e2'
    exact ⟨same_new hT, _, .tupO upd_same (.cons (by rw [show (0 : Int) + (i : Int) = (i : Int) by omega]; exact .int _) (.cons (rv.mono (Same.refl _) (same_new hT)) .nil))⟩
  | _ => exact z1.elim
end
end G
set_option maxHeartbeats 1000000
namespace G
open PySem L2
def tD (cl : Cl) (K : PySem.W.Frag) (W : WX) (f : E) : TE := fun σ H Q => ∃ ρ S, Look K S H σ ρ ∧ Same S H ∧ PostE cl K W σ S H (f ρ) Q
def tDT (cl : Cl) (K : PySem.W.Frag) (W : WX) (f : E) : TT := fun σ H Q => ∃ ρ S, Look K S H σ ρ ∧ Same S H ∧ PostT cl K W σ S H (f ρ) Q
abbrev W0 : WX := fun _ _ _ _ => False
section
variable {cl : Cl} {X : Cx} {W : WX} {e : Expr} {f : E}
theorem DE.pe (h : DE cl X W e f) : PE X e (tD cl X.K W f) := by
  obtain ⟨t, p, q⟩ := h.pf
  refine ⟨fun pins s σ H Q I z => ?_⟩
  obtain ⟨ρ, S, l, ss, po⟩ := z
  exact p.run pins s σ H Q I (q σ ρ S H Q l ss po)
theorem DT.pt (h : DT cl X W e f) : PT X e (tDT cl X.K W f) := by
  obtain ⟨t, p, q⟩ := h.pf
  refine ⟨fun pins s σ H Q I z => ?_⟩
  obtain ⟨ρ, S, l, ss, po⟩ := z
  exact p.run pins s σ H Q I (q σ ρ S H Q l ss po)
end
theorem Look.clr {K : PySem.W.Frag} {S H : Hp} {σ : L2.St} {ρ : Env} (l : Look K S H σ ρ) : ∀ vs : List Nat, Look K S H (wipe σ vs) (clr vs ρ)
  | [] => l
  | v :: vs => by
    have ih := Look.clr l vs
    refine ⟨by simp [wipe, G.clr, ih.1], fun i d h => ?_⟩
    unfold G.clr at h
    by_cases hi : i = v
    · subst hi
      rw [List.getElem?_set] at h
      split at h
      · split at h <;> cases h
      · rename_i hne; exact absurd rfl hne
    · rw [List.getElem?_set_ne (Ne.symm hi)] at h
      obtain ⟨w, qs, h1, h2⟩ := ih.2 i d h
      exact ⟨w, qs, by unfold wipe; rw [List.getElem?_set_ne (Ne.symm hi)]; exact h1, h2⟩
theorem Look.put {K : PySem.W.Frag} {S H : Hp} {σ : L2.St} {ρ : Env} (l : Look K S H σ ρ) {v : V} {d : D} {qs : List Addr} (r : Rp K S H v d qs) (i : Nat) : Look K S H (σ.set i (some v)) (put ρ i d) := by
  refine ⟨by simp [G.put, l.1], fun j d' h => ?_⟩
  unfold G.put at h
  by_cases hi : j = i
  · subst hi
    rw [List.getElem?_set] at h
    split at h
    · split at h
      · rename_i hlt
        cases h
        exact ⟨v, qs, by rw [List.getElem?_set_self (by rw [l.1]; exact hlt)], r⟩
      · cases h
    · rename_i hne; exact absurd rfl hne
  · rw [List.getElem?_set_ne (Ne.symm hi)] at h
    obtain ⟨w, qs, h1, h2⟩ := l.2 j d' h
    exact ⟨w, qs, by rw [List.getElem?_set_ne (Ne.symm hi)]; exact h1, h2⟩
def CG (K : PySem.W.Frag) (vs : List Nat) (g : TG) (b : B) : Prop := ∀ (σ : L2.St) (ρ ρ1 : Env) (S H : Hp) (v : V) (d : D) (qs : List Addr) (Q : L2.St → Hp → Prop), Look K S H σ ρ → Same S H → Rp K S H v d qs → b d ρ = .ok ρ1 →
  (∀ σ1, wipe σ1 vs = wipe σ vs → Look K S H σ1 ρ1 → Q σ1 H) → g v σ H Q
theorem cg_name {K : PySem.W.Frag} (i : Nat) : CG K [i] (gName i) (cN i) := by
  intro σ ρ ρ1 S H v d qs Q l s r e k
  cases e
  exact k _ (by simp [wipe]) (l.put r i)
theorem RpAll.two {K : PySem.W.Frag} {S H : Hp} {vs : List V} {x y : D} {ps : List Addr} (h : RpAll K S H vs [x, y] ps) : ∃ v1 v2 p1 p2, vs = [v1, v2] ∧ Rp K S H v1 x p1 ∧ Rp K S H v2 y p2 := by
  cases h with
  | cons ra t =>
    cases t with
    | cons rb t2 =>
      cases t2
      exact ⟨_, _, _, _, rfl, ra, rb⟩
theorem wipe2 (σ : L2.St) (i j : Nat) (v u : V) : wipe ((σ.set i (some v)).set j (some u)) [i, j] = wipe σ [i, j] := by
  simp only [wipe]
  by_cases hij : i = j
  · subst hij; simp
  · rw [List.set_set, List.set_comm _ _ hij, List.set_set, List.set_comm _ _ (Ne.symm hij)]
theorem cT2 {i j : Nat} {d : D} {ρ ρ1 : Env} (e : cT [i, j] d ρ = .ok ρ1) : ∃ o x y, d = .tup o [x, y] ∧ ρ1 = put (put ρ i x) j y := by
  cases d with
  | tup o ds =>
    cases ds with
    | nil => simp [cT, cNs] at e
    | cons x ds =>
      cases ds with
      | nil => simp [cT, cNs] at e
      | cons y ds =>
        cases ds with
        | nil => simp [cT, cNs] at e; exact ⟨o, x, y, rfl, e.symm⟩
        | cons z ds => simp [cT, cNs] at e
  | _ => simp [cT] at e
theorem cg_tup2 {K : PySem.W.Frag} (i j : Nat) : CG K [i, j] (gTup K 2 (gCons (gName i) (gCons (gName j) gNil))) (cT [i, j]) := by
  intro σ ρ ρ1 S H v d qs Q l s r e k
  obtain ⟨o, x, y, rfl, rfl⟩ := cT2 e
  obtain ⟨a, vs, rs, rfl, h1, r1⟩ := r.tup s
  obtain ⟨v1, v2, p1, p2, rfl, ra, rb⟩ := r1.two
  exact ⟨a, [v1, v2], rfl, h1, rfl, v1, [v2], rfl, v2, [], rfl, rfl, k _ (wipe2 σ i j v1 v2) ((l.put ra i).put rb j)⟩
section
variable {cl : Cl} {X : Cx} {W : WX} {elt tg iter : Expr} {ifs : List Expr} {scope : Scope} {own : List (Str × Nat)} {pos : Pos} {b : B} {g : TG} {c f : E} {it : I}
def DTs (cl : Cl) (X : Cx) (W : WX) (ifs : List Expr) (c : E) : Prop := PTs X ifs (tDT cl X.K W c)
theorem dts_nil : DTs cl X W [] eYes := ⟨fun pins s σ H Q I h => by
  obtain ⟨ρ, S, l, ss, po⟩ := h
  exact (pts_nil (X := X)).run pins s σ H Q I (po S H (Grow.refl ss))⟩
theorem dts_one {e : Expr} (h : DT cl X W e c) : DTs cl X W [e] c := pts_one h.pt
theorem nox_ok {α : Type} {r : Res α} {a : α} (h : r.nox = .ok a) : r = .ok a := by
  cases r <;> simp [Res.nox] at h ⊢
  exact h
theorem lc_run {K : PySem.W.Frag} {vs : List Nat} (hb : CG K vs g b) {σ : L2.St} {ρ : Env} {S H : Hp} {Q : VK} {J : It} {ds zs : List D} {G : Hp → Prop} {Y : Nat → Hp → V → Hp → Prop}
    (l : Look K S H σ ρ) (s : Same S H) (wk : Walk J ds.length G Y) (hG : ∀ H2, Same H H2 → G H2)
    (hY : ∀ i H2 x H3 S2 d, Same H H2 → Same S S2 → Same S2 H2 → ds[i]? = some d → Y i H2 x H3 → Same H2 H3 ∧ ∃ qs, Rp K S2 H3 x d qs)
    (hc : compL b c f (clr vs ρ) ds = .ok zs) (hz : zs.length ≤ LINE)
    (k : ∀ v S' H' qs, Grow S H S' H' → Fresh H S' qs → Rp K S' H' v (.lst true zs) qs → Q v H') :
    ∀ Dd, H Dd = none → ∃ Wk : Nat → Nat → Hp → Prop, (∃ m, Wk 0 m (upd H Dd (.lst []))) ∧ ∀ i m H, Wk i m H →
      (J.stop i H ∧ Q (.ref Dd) H) ∨ (J.go i H ∧ ∃ Nx : Hp → Prop, (∀ H', Nx H' → ∃ m', m' < m ∧ Wk (i + 1) m' H') ∧ ∀ x H', J.yld i H x H' → g x (wipe σ vs) H' fun σ2 H2 => wipe σ2 vs = wipe σ vs ∧ (tDT cl K W0 c) σ2 H2 fun b H3 =>
        if b = true then (tD cl K W0 f) σ2 H3 fun y H4 => ∃ acc, H4 Dd = some (.lst acc) ∧ acc.length < sizeLine ∧ Nx (upd H4 Dd (.lst (acc ++ [y]))) else Nx H3) := by
  intro Dd hD
  refine lc_it wk (fun i H2 => ∃ S2 as ys qs rest, compL b c f (clr vs ρ) (ds.drop i) = .ok rest ∧ zs = ys ++ rest ∧ Grow S H S2 H2 ∧ Fresh H S2 (Dd :: qs) ∧ H2 Dd = some (.lst as) ∧ RpAll K S2 H2 as ys qs) ?_ ?_ ?_ ?_
  · refine ⟨S, [], [], [], zs, by simpa using hc, rfl, (Grow.refl s).more (same_new hD), ⟨by simp, fun q hq => ?_⟩, upd_same, .nil⟩
    have e : q = Dd := by simpa using hq
    subst e
    exact ⟨hD, none_back s hD⟩
  · rintro i H2 hi ⟨S2, as, ys, qs, rest, _, _, gr, _⟩
    exact hG H2 gr.hh
  · rintro i x H2 H3 hi ⟨S2, as, ys, qs, rest, h1, h2, gr, fr, hd, ra⟩ hy
    have hlt : i < ds.length := hi
    have hdi : ds[i]? = some ds[i] := List.getElem?_eq_getElem hlt
    obtain ⟨s23, rs, rp⟩ := hY i H2 x H3 S2 _ gr.hh gr.ss gr.sh hdi hy
    rw [List.drop_eq_getElem_cons hlt] at h1
    unfold compL at h1
    cases k1 : b ds[i] (clr vs ρ) with
    | no => rw [k1] at h1; cases h1
    | ex c' fs => rw [k1] at h1; cases h1
    | ok ρ1 =>
      have k1n : (b ds[i] (clr vs ρ)).nox = .ok ρ1 := by rw [k1]; rfl
      rw [k1n] at h1
      simp only [Res.bind] at h1
      have gr3 : Grow S H S2 H3 := gr.more s23
      refine hb _ _ ρ1 S2 H3 x _ rs _ ((l.mono gr3).clr vs) gr3.sh rp k1 fun σ1 hw l1 => ⟨?_, ?_⟩
      · rw [hw]
        have ww : ∀ us : List Nat, wipe (wipe σ vs) us = wipe σ vs ∨ True := fun _ => .inr trivial
        have : ∀ (us ws : List Nat) (τ : L2.St), (∀ u ∈ us, u ∈ ws) → wipe (wipe τ ws) us = wipe τ ws := by
          intro us
          induction us with
          | nil => intro ws τ _; rfl
          | cons u us ih =>
            intro ws τ hsub
            show (wipe (wipe τ ws) us).set u none = wipe τ ws
            rw [ih ws τ fun z hz => hsub z (List.mem_cons_of_mem _ hz)]
            have hu := hsub u (List.mem_cons_self ..)
            clear ih hsub
            induction ws generalizing τ with
            | nil => cases hu
            | cons w ws ih2 =>
              show ((wipe τ ws).set w none).set u none = (wipe τ ws).set w none
              by_cases hwu : w = u
              · subst hwu; simp
              · rw [List.set_comm _ _ hwu, ih2 τ (by
                  rcases List.mem_cons.mp hu with z | z
                  · exact absurd z.symm hwu
                  · exact z)]
        exact this vs vs σ fun _ h => h
      · cases k2 : (c ρ1).nox with
        | no => rw [k2] at h1; cases h1
        | ex c' fs => rw [k2] at h1; cases h1
        | ok kd =>
          rw [k2] at h1
          have k2' := nox_ok k2
          cases kd with
          | bl kb =>
            refine ⟨ρ1, S2, l1, gr3.sh, ?_⟩
            rw [k2']
            intro S4 H4 g4
            have gr4 := gr3.trans g4
            have fr4 := fr.on (gr3.trans g4 |> fun _ => (⟨s23.trans g4.hh, g4.ss, g4.sh, fun a o ha hn => none_back s23 (g4.nw a o ha hn)⟩ : Grow S2 H2 S4 H4)) (fun q hq => by
              rcases List.mem_cons.mp hq with rfl | hq
              · exact ⟨_, hd⟩
              · exact ra.there q hq)
            cases kb with
            | false =>
              refine ⟨S4, as, ys, qs, rest, h1, h2, gr4, fr4, (s23.trans g4.hh) _ _ hd, ra.mono g4.ss (s23.trans g4.hh)⟩
            | true =>
              cases k3 : (f ρ1).nox with
              | no => simp only [k3] at h1; cases h1
              | ex c' fs => simp only [k3] at h1; cases h1
              | ok y =>
                simp only [k3] at h1
                have k3' := nox_ok k3
                cases k4 : compL b c f (clr vs ρ) (ds.drop (i + 1)) with
                | no => simp only [k4] at h1; cases h1
                | ex c' fs => simp only [k4] at h1; cases h1
                | ok rest' =>
                  simp only [k4] at h1
                  cases h1
                  refine ⟨ρ1, S4, l1.mono g4, g4.sh, ?_⟩
                  rw [k3']
                  intro v S5 H5 ps g5 f5 rp5
                  have hd5 : H5 Dd = some (.lst as) := g5.hh _ _ ((s23.trans g4.hh) _ _ hd)
                  have th4 : ∀ q ∈ Dd :: qs, ∃ o, H4 q = some o := fun q hq => by
                    rcases List.mem_cons.mp hq with rfl | hq
                    · exact ⟨_, (s23.trans g4.hh) _ _ hd⟩
                    · obtain ⟨o, ho⟩ := ra.there q hq
                      exact ⟨o, (s23.trans g4.hh) _ _ ho⟩
                  have frA : Fresh H S5 ((Dd :: qs) ++ ps) := fr4.app th4 gr4.hh g5 f5
                  have gr5 := gr4.trans g5
                  have hDq : Dd ∉ qs ++ ps := by
                    have := frA.1
                    simp only [List.cons_append, List.nodup_cons] at this
                    exact this.1
                  have hall : as.length < sizeLine := by
                    have e1 := ra.length
                    have e2 : zs.length = ys.length + (y :: rest').length := by rw [h2, List.length_append]
                    rw [List.length_cons] at e2
                    rw [line_eq]
                    omega
                  refine ⟨as, hd5, hall, S5, as ++ [v], ys ++ [y], qs ++ ps, rest', rfl, by rw [h2]; simp, ⟨same_set gr5.hh hD, gr5.ss, same_set gr5.sh (frA.2 Dd (by simp)).2, gr5.nw⟩, by simpa using frA, upd_same, ?_⟩
                  have r1 : RpAll K S5 H5 as ys qs := (ra.mono g4.ss (s23.trans g4.hh)).mono g5.ss g5.hh
                  have r2 : RpAll K S5 H5 [v] [y] ps := by simpa using RpAll.cons rp5 RpAll.nil
                  exact (r1.append r2).set hDq
          | _ => cases h1
  · rintro H2 ⟨S2, as, ys, qs, rest, h1, h2, gr, fr, hd, ra⟩
    rw [List.drop_length] at h1
    cases h1
    rw [List.append_nil] at h2
    subst h2
    exact k (.ref Dd) S2 H2 (Dd :: qs) gr fr (.lstO hd ra)
theorem nox_noex {α : Type} (r : Res α) (c : String) (fs : List D) : r.nox ≠ .ex c fs := by cases r <;> simp [Res.nox]
theorem compL_noex {ρ : Env} : ∀ (l : List D) (c' : String) (fs : List D), compL b c f ρ l ≠ .ex c' fs
  | [], _, _ => by simp [compL]
  | x :: l, c', fs => by
    unfold compL
    cases k1 : (b x ρ).nox with
    | no => simp [Res.bind]
    | ex c0 f0 => exact absurd k1 (nox_noex _ _ _)
    | ok ρ1 =>
      simp only [Res.bind]
      cases k2 : (c ρ1).nox with
      | no => simp
      | ex c0 f0 => exact absurd k2 (nox_noex _ _ _)
      | ok kd =>
        cases kd with
        | bl kb =>
          cases kb with
          | false => exact compL_noex l c' fs
          | true =>
            cases k3 : (f ρ1).nox with
            | no => simp
            | ex c0 f0 => exact absurd k3 (nox_noex _ _ _)
            | ok y =>
              simp only
              cases k4 : compL b c f ρ l with
              | no => simp
              | ex c0 f0 => exact absurd k4 (compL_noex l c0 f0)
              | ok ys => simp
        | _ => simp
theorem lc_den (hi : DI false cl X W tg iter it) (hb : CG X.K (own.map (·.2)) g b) : ∃ wi, PI X tg iter wi ∧ ∀ (σ : L2.St) (ρ : Env) (S H : Hp) (Q : VK), Look X.K S H σ ρ → Same S H → PostE cl X.K W σ S H (eComp (own.map (·.2)) it b c f ρ) Q → tLc wi g (tDT cl X.K W0 c) (tD cl X.K W0 f) (own.map (·.2)) σ H Q := by
  obtain ⟨wi, pi, qi⟩ := hi.pf
  refine ⟨wi, pi, fun σ ρ S H Q l s z => qi σ ρ S H _ l s ?_⟩
  unfold eComp at z
  cases k1 : it ρ with
  | no => rw [k1] at z; exact z
  | ex c' fs => rw [k1] at z; exact z
  | ok ds =>
    simp only [k1, Res.bind] at z
    cases k2 : compL b c f (clr (own.map (·.2)) ρ) ds with
    | no => simp only [k2] at z; exact z.elim
    | ex c' fs =>
      exact absurd k2 (compL_noex _ c' fs)
    | ok zs =>
      simp only [k2] at z
      by_cases hz : zs.length ≤ LINE
      · simp only [hz, if_true] at z
        intro J S' H' G Y g1 wk hG hY
        exact lc_run hb (l.mono g1) g1.sh wk hG hY k2 hz (PostE.on (r := .ok (.lst true zs)) g1 z)
      · simp only [hz, if_false] at z; exact z.elim
theorem de_comp {vs : List Nat} (hv : own.map (·.2) = vs) (hc : X.calm = true) (hN : X.N.Nodup) (hi : DI false cl X W tg iter it) (ok : BlkOk X.N X.env.scope scope own) (hb : CG X.K vs g b)
    (hg : ∀ (s : Shared) (H : Hp) (C : Addr) (cls : List (Str × Addr)) (fp : List Addr), PG (X.blk s H scope (compEnvC scope cls C X.env) fp) tg g)
    (ht : ∀ (s : Shared) (H : Hp) (C : Addr) (cls : List (Str × Addr)) (fp : List Addr), DTs cl (X.blk s H scope (compEnvC scope cls C X.env) fp) W0 ifs c)
    (he : ∀ (s : Shared) (H : Hp) (C : Addr) (cls : List (Str × Addr)) (fp : List Addr), DE cl (X.blk s H scope (compEnvC scope cls C X.env) fp) W0 elt f)
    (hs : ∀ x, foldedSetIterable iter X.env x = pure x := by intro _; rfl) : DE cl X W (.ListComp elt [⟨tg, iter, ifs, 0⟩] scope pos) (eComp vs it b c f) := by
  subst hv
  obtain ⟨wi, pi, q⟩ := lc_den (c := c) (f := f) hi hb
  exact ⟨_, pe_lc (tt := tDT cl X.K W0 c) (te := tD cl X.K W0 f) hc hN pi ok hg (fun s H C cls fp => ht s H C cls fp) (fun s H C cls fp => (he s H C cls fp).pe) hs, q⟩
end
end G
set_option maxHeartbeats 1000000
namespace G
open PySem L2
def PostS (cl : Cl) (K : PySem.W.Frag) (P : Pins) (W : WX) (S0 H0 : Hp) (o : Out) (Dn : Ends) : Prop := match o with
  | .no => False
  | .nx ρ => ∀ S H σ, Rl K P S0 H0 S H σ ρ → Dn.nx σ H
  | .bk ρ => ∀ S H σ, Rl K P S0 H0 S H σ ρ → Dn.bk σ H
  | .ct ρ => ∀ S H σ, Rl K P S0 H0 S H σ ρ → Dn.ct σ H
  | .rt d ρ => ∀ v S H σ, Rl K P S0 H0 S H (σ ++ [some v]) (ρ ++ [some d]) → Dn.rt v H
  | .xc c fs ρ => ∀ S H σ cls dd, Rl K P S0 H0 S H σ ρ → XR cl S c fs cls dd → W cls dd σ H
structure DS (cl : Cl) (P : Pins) (X : Cx) (W : WX) (st : Stmt) (F : Sd) : Prop where
  pf : ∃ t : TS, PS X st t ∧ ∀ (S0 H0 S H : Hp) (σ : L2.St) (ρ : Env) (Dn : Ends), Rl X.K P S0 H0 S H σ ρ → PostS cl X.K P W S0 H0 (F ρ) Dn → t Dn σ H
structure DSs (cl : Cl) (P : Pins) (X : Cx) (W : WX) (st : List Stmt) (F : Sd) : Prop where
  pf : ∃ t : TS, PSs X st t ∧ ∀ (S0 H0 S H : Hp) (σ : L2.St) (ρ : Env) (Dn : Ends), Rl X.K P S0 H0 S H σ ρ → PostS cl X.K P W S0 H0 (F ρ) Dn → t Dn σ H
theorem Its.more {K : PySem.W.Frag} {S H : Hp} {v : V} {d : D} {qs : List Addr} (r : Rp K S H v d qs) : ∀ {σ : L2.St} {ρ : Env} {ps : List Addr}, Its K S H σ ρ ps → Its K S H (σ ++ [some v]) (ρ ++ [some d]) (ps ++ qs)
  | _, _, _, .nil => by simpa using Its.item r .nil
  | _, _, _, .skip t => .skip (Its.more r t)
  | _, _, _, .item (qs := rs) (ps := ps) r' t => by
    have := Its.item r' (Its.more r t)
    simpa [List.append_assoc] using this
theorem pn_app {P : Pins} {σ : L2.St} (h : ∀ i v, P i = some v → σ[i]? = some (some v)) {x : Option V} : ∀ j v, P j = some v → (σ ++ [x])[j]? = some (some v) := fun j v hj => by
  have h1 := h j v hj
  obtain ⟨h2, h3⟩ := List.getElem?_eq_some_iff.mp h1
  rw [List.getElem?_append_left h2]; exact h1
theorem Rl.more {K : PySem.W.Frag} {P : Pins} {S0 H0 S H S' H' : Hp} {σ : L2.St} {ρ : Env} (R : Rl K P S0 H0 S H σ ρ) (g : Grow S H S' H') {v : V} {d : D} {qs : List Addr} (f : Fresh H S' qs) (rp : Rp K S' H' v d qs) : Rl K P S0 H0 S' H' (σ ++ [some v]) (ρ ++ [some d]) := by
  have R' := R.grow g
  obtain ⟨ps, it, nd, fr⟩ := R.it
  refine ⟨pn_app R.pn, R'.gr, ps ++ qs, (it.mono g.ss g.hh).more rp, List.nodup_append.mpr ⟨nd, f.1, fun a ha b hb z => ?_⟩, fun p hp => ?_⟩
  · obtain ⟨o, ho⟩ := it.there a ha
    have := (f.2 b hb).1
    rw [← z, ho] at this; cases this
  · rcases List.mem_append.mp hp with h | h
    · refine ⟨(fr p h).1, ?_⟩
      cases e : S' p with
      | none => rfl
      | some u =>
        obtain ⟨o, ho⟩ := it.there p h
        have z := g.nw p u e (fr p h).2
        rw [ho] at z; cases z
    · exact ⟨none_back R.gr.hh (f.2 p h).1, (f.2 p h).2⟩
section
variable {cl : Cl} {K : PySem.W.Frag} {P : Pins} {W : WX} {S0 H0 S H : Hp} {σ : L2.St} {ρ : Env} {Dn : Ends} {r : Res D}
theorem stmt_e {k : D → Out} {Q : VK} (R : Rl K P S0 H0 S H σ ρ) (z : PostS cl K P W S0 H0 (sE r ρ k) Dn)
    (h : ∀ d v S' H' qs, r = .ok d → Grow S H S' H' → Fresh H S' qs → Rp K S' H' v d qs → Rl K P S0 H0 S' H' σ ρ → PostS cl K P W S0 H0 (k d) Dn → Q v H') : PostE cl K W σ S H r Q := by
  cases r with
  | no => exact z
  | ok d => exact fun v S' H' qs g f rp => h d v S' H' qs rfl g f rp (R.grow g) z
  | ex c fs => exact fun S' H' cls dd g x => z S' H' σ cls dd (R.grow g) x
theorem stmt_t {k : D → Out} {Q : Bool → Hp → Prop} (hk : ∀ d, (∀ b, d ≠ .bl b) → k d = .no) (R : Rl K P S0 H0 S H σ ρ) (z : PostS cl K P W S0 H0 (sE r ρ k) Dn)
    (h : ∀ b S' H', Grow S H S' H' → Rl K P S0 H0 S' H' σ ρ → PostS cl K P W S0 H0 (k (.bl b)) Dn → Q b H') : PostT cl K W σ S H r Q := by
  cases r with
  | no => exact z
  | ok d =>
    cases d with
    | bl b => exact fun S' H' g => h b S' H' g (R.grow g) z
    | _ =>
      have z : PostS cl K P W S0 H0 (k _) Dn := z
      rw [hk _ (by intro b z; cases z)] at z
      exact z
  | ex c fs => exact fun S' H' cls dd g x => z S' H' σ cls dd (R.grow g) x
end
section
variable {cl : Cl} {P : Pins} {X : Cx} {W : WX} {st : Stmt} {rest a b : List Stmt} {e c : Expr} {f : E} {F G' : Sd} {pos : Pos}
theorem dss_nil : DSs cl P X W [] sPass := ⟨tNext, pss_nil, fun S0 H0 S H σ ρ Dn R z => z S H σ R⟩
theorem PostS.seq {S0 H0 : Hp} {o : Out} {Dn : Ends} {u : TS} (z : PostS cl X.K P W S0 H0 (o.then G') Dn)
    (h : ∀ ρ S H σ, Rl X.K P S0 H0 S H σ ρ → PostS cl X.K P W S0 H0 (G' ρ) Dn → u Dn σ H) : PostS cl X.K P W S0 H0 o { Dn with nx := u Dn } := by
  cases o with
  | nx ρ => exact fun S H σ R => h ρ S H σ R z
  | _ => exact z
theorem dss_cons (h1 : DS cl P X W st F) (h2 : DSs cl P X W rest G') : DSs cl P X W (st :: rest) (sSeq F G') := by
  obtain ⟨t, pt, qt⟩ := h1.pf
  obtain ⟨u, pu, qu⟩ := h2.pf
  refine ⟨_, pss_cons pt pu, fun S0 H0 S H σ ρ Dn R z => qt S0 H0 S H σ ρ _ R ?_⟩
  exact PostS.seq z fun ρ S H σ R z => qu S0 H0 S H σ ρ Dn R z
theorem dss_one (h1 : DS cl P X W st F) : DSs cl P X W [st] F := let ⟨t, pt, qt⟩ := h1.pf; ⟨t, pss_one pt, qt⟩
theorem dss_no : DSs cl P X W rest sNo := ⟨_, pss_never, fun S0 H0 S H σ ρ Dn R z => z.elim⟩
theorem ds_set {i : Nat} {x : Str} {pos' : Pos} (hN : X.N.Nodup) (hi : X.N[i]? = some x) (hx : Loc X.env.scope x) (he : DE cl X W e f) (hs : swapsWith e (some (.Name x pos')) pos.line X.env = pure false := by rfl) (hf : X.fn x = true ∨ X.env.scope.names.lookup x = some .local := by first | exact .inl rfl | exact .inr rfl | assumption) (hpn : P i = none := by rfl) :
    DS cl P X W (.Assign [.Name x pos'] e pos) (sSet i f) := by
  obtain ⟨t, pt, q⟩ := he.pf
  refine ⟨_, ps_set hN hi hx pt hs hf, fun S0 H0 S H σ ρ Dn R z => ?_⟩
  refine q σ ρ S H _ R.look R.gr.sh (stmt_e R z ?_)
  intro d v S' H' qs hr g f rp R' z1
  refine z1 S' H' _ ?_
  by_cases hl : i < ρ.length
  · exact R.put g f rp hl hpn
  · have e1 : put ρ i d = ρ := List.set_eq_of_length_le (Nat.not_lt.mp hl)
    have e2 : σ.set i (some v) = σ := List.set_eq_of_length_le (by rw [R.look.1]; exact Nat.not_lt.mp hl)
    rw [e1, e2]; exact R'
theorem ds_setLc {i : Nat} {y : Str} {py : Pos} {elt tg iter : Expr} {ifs : List Expr} {scope : Scope} {own : List (Str × Nat)} {vs : List Nat} {p2 spos : Pos} {b : B} {g : TG} {c f : E} {it : I} (hv : own.map (·.2) = vs) (hc : X.calm = true) (hN : X.N.Nodup) (hy : X.N[i]? = some y) (hyl : X.env.scope.names.lookup y = some .local)
    (hsw : swapsWith (.ListComp elt [⟨tg, iter, ifs, 0⟩] scope p2) (some (.Name y py)) spos.line X.env = pure true) (hi : DI false cl X W tg iter it) (ok : BlkOk X.N X.env.scope scope own) (hb : CG X.K vs g b)
    (hg : ∀ (s : Shared) (H : Hp) (C : Addr) (cls : List (Str × Addr)) (fp : List Addr), PG (X.blk s H scope (compEnvC scope cls C X.env) fp) tg g)
    (ht : ∀ (s : Shared) (H : Hp) (C : Addr) (cls : List (Str × Addr)) (fp : List Addr), DTs cl (X.blk s H scope (compEnvC scope cls C X.env) fp) W0 ifs c)
    (he : ∀ (s : Shared) (H : Hp) (C : Addr) (cls : List (Str × Addr)) (fp : List Addr), DE cl (X.blk s H scope (compEnvC scope cls C X.env) fp) W0 elt f)
    (hs : ∀ x, foldedSetIterable iter X.env x = pure x := by intro _; rfl) (hpn : P i = none := by rfl) : DS cl P X W (.Assign [.Name y py] (.ListComp elt [⟨tg, iter, ifs, 0⟩] scope p2) spos) (sSet i (eComp vs it b c f)) := by
  subst hv
  obtain ⟨wi, pi, q⟩ := lc_den (c := c) (f := f) hi hb
  refine ⟨_, ps_setLc (tt := tDT cl X.K W0 c) (te := tD cl X.K W0 f) hc hN hy hyl hsw pi ok hg (fun s H C cls fp => ht s H C cls fp) (fun s H C cls fp => (he s H C cls fp).pe) hs, fun S0 H0 S H σ ρ Dn R z => ?_⟩
  refine q σ ρ S H _ R.look R.gr.sh (stmt_e R z ?_)
  intro d v S' H' qs hr g f rp R' z1
  refine z1 S' H' _ ?_
  by_cases hl : i < ρ.length
  · exact R.put g f rp hl hpn
  · have e1 : put ρ i d = ρ := List.set_eq_of_length_le (Nat.not_lt.mp hl)
    have e2 : σ.set i (some v) = σ := List.set_eq_of_length_le (by rw [R.look.1]; exact Nat.not_lt.mp hl)
    rw [e1, e2]; exact R'
theorem ds_drop (he : DE cl X W e f) (hs : swapsWith e none pos.line X.env = pure false := by rfl) : DS cl P X W (.Expr e pos) (sDrop f) := by
  obtain ⟨t, pt, q⟩ := he.pf
  refine ⟨_, ps_expr pt hs, fun S0 H0 S H σ ρ Dn R z => ?_⟩
  exact q σ ρ S H _ R.look R.gr.sh (stmt_e R z fun d v S' H' qs hr g f rp R' z1 => z1 S' H' _ R')
theorem ds_ret (he : DE cl X W e f) : DS cl P X W (.Return (some e) pos) (sRet f) := by
  obtain ⟨t, pt, q⟩ := he.pf
  refine ⟨_, ps_ret pt, fun S0 H0 S H σ ρ Dn R z => ?_⟩
  exact q σ ρ S H _ R.look R.gr.sh (stmt_e R z fun d v S' H' qs hr g f rp R' z1 => z1 v S' H' σ (R.more g f rp))
theorem ds_retM (i : Nat) (p : PE X e (tVar i)) : DS cl P X W (.Return (some e) pos) (sRetM i) := by
  refine ⟨_, ps_ret p, fun S0 H0 S H σ ρ Dn R z => ?_⟩
  unfold sRetM at z
  rcases get_cases ρ i with e | ⟨d, e⟩
  · rw [e] at z; exact z.elim
  · rw [e] at z
    obtain ⟨ps, it, nd, fr⟩ := R.it
    have e' : ρ[i]? = some (some d) := by
      unfold get at e
      split at e
      · rename_i d' e'; cases e; exact e'
      · cases e
    obtain ⟨v, qs, ps', h1, h2, h3, h4, h5⟩ := it.pick i e'
    refine ⟨v, h1, z v S H σ ⟨pn_app R.pn, R.gr, ps' ++ qs, h3.more h2, List.nodup_append.mpr ⟨(h5 nd).1, (h5 nd).2.1, fun a ha b hb z => (h5 nd).2.2 a ha (z ▸ hb)⟩, fun p hp => fr p ((h4 p).mpr (List.mem_append.mp hp))⟩⟩
theorem ds_if (hc : DT cl X W c f) (ha : DSs cl P X W a F) (hb : DSs cl P X W b G') : DS cl P X W (.If c a b pos) (sIf f F G') := by
  obtain ⟨tc, pc, qc⟩ := hc.pf
  obtain ⟨ta, pa, qa⟩ := ha.pf
  obtain ⟨tb, pb, qb⟩ := hb.pf
  refine ⟨_, ps_if pc pa pb, fun S0 H0 S H σ ρ Dn R z => ?_⟩
  refine qc σ ρ S H _ R.look R.gr.sh (stmt_t (by intro d hd; cases d <;> first | rfl | exact absurd rfl (hd _)) R z ?_)
  intro b S' H' g R' z1
  cases b with
  | true => exact qa S0 H0 S' H' σ ρ Dn R' z1
  | false => exact qb S0 H0 S' H' σ ρ Dn R' z1
theorem rl_frz {K : PySem.W.Frag} {P : Pins} {S0 H0 S H : Hp} {σ : L2.St} {ρ : Env} {i : Nat} {d : D} (R : Rl K P S0 H0 S H σ ρ) (e' : ρ[i]? = some (some d)) : ∃ S', Rl K P S0 H0 S' H σ (put ρ i d.frz) := by
  obtain ⟨ps, it, nd, fr⟩ := R.it
  obtain ⟨v, qs, ps', h1, h2, h3, h4, h5⟩ := it.pick i e'
  have hq : ∀ q ∈ qs, S q = none := fun q hq => (fr q ((h4 q).mpr (.inr hq))).2
  have ss : Same S (fun a => if a ∈ qs then H a else S a) := fun b o hb => by
    have : b ∉ qs := fun z => by rw [hq b z] at hb; cases hb
    simp only [this, if_false]; exact hb
  have sh : Same (fun a => if a ∈ qs then H a else S a) H := fun b o hb => by
    by_cases hb' : b ∈ qs
    · simpa only [hb', if_true] using hb
    · simp only [hb', if_false] at hb; exact R.gr.sh b o hb
  have hi : i < ρ.length := (List.getElem?_eq_some_iff.mp e').1
  have rp : Rp K (fun a => if a ∈ qs then H a else S a) H v d.frz [] := h2.frz ss (fun p hp o ho => by simp only [hp, if_true]; exact ho) H
  obtain ⟨ps2, a1, a2, a3⟩ := (h3.mono ss (Same.refl H)).put rp i (by simpa using hi)
  have e1 : put (ρ.set i none) i d.frz = put ρ i d.frz := by simp [put]
  have e2 : σ.set i (some v) = σ := by
    have hs := List.getElem?_eq_some_iff.mp h1
    obtain ⟨hlt, hv⟩ := hs
    rw [← hv]; exact List.set_getElem_self hlt
  rw [e1, e2] at a1
  refine ⟨_, R.pn, ⟨R.gr.hh, R.gr.ss.trans ss, sh, fun a o ha hn => ?_⟩, ps2, a1, a3 (h5 nd).1 List.nodup_nil (fun _ _ z => nomatch z), fun p hp => ?_⟩
  · by_cases hb' : a ∈ qs
    · exact (fr a ((h4 a).mpr (.inr hb'))).1
    · simp only [hb', if_false] at ha; exact R.gr.nw a o ha hn
  · rcases a2 p hp with z | z
    · have hpq : p ∉ qs := (h5 nd).2.2 p z
      have := fr p ((h4 p).mpr (.inl z))
      refine ⟨this.1, ?_⟩
      show (if p ∈ qs then H p else S p) = none
      rw [if_neg hpq]; exact this.2
    · cases z
theorem ds_frz (i : Nat) (h : DS cl P X W st F) : DS cl P X W st (sFrz i F) := by
  obtain ⟨t, pt, q⟩ := h.pf
  refine ⟨t, pt, fun S0 H0 S H σ ρ Dn R z => ?_⟩
  unfold sFrz at z
  rcases get_cases ρ i with e | ⟨d, e⟩
  · rw [e] at z; exact z.elim
  · rw [e] at z
    have e' : ρ[i]? = some (some d) := by
      unfold get at e
      split at e
      · rename_i d' e'; cases e; exact e'
      · cases e
    obtain ⟨S', R'⟩ := rl_frz R e'
    exact q S0 H0 S' H σ _ Dn R' z
end
end G
set_option maxHeartbeats 1000000
namespace G
open PySem L2
theorem get_some {ρ : Env} {i : Nat} {d : D} (e : get ρ i = .ok d) : ρ[i]? = some (some d) := by
  unfold get at e
  split at e
  · rename_i d' e'; cases e; exact e'
  · cases e
theorem rl_mut {K : PySem.W.Frag} {P : Pins} {S0 H0 S H : Hp} {σ : L2.St} {ρ : Env} {i : Nat} {xs zs : List D} (R : Rl K P S0 H0 S H σ ρ) (e : ρ[i]? = some (some (.lst true xs))) {S1 H1 : Hp} (g : Grow S H S1 H1) {ws : List V} {rs : List Addr} (fr : Fresh H S1 rs)
    (hz : ∀ vs qs, RpAll K S1 H1 vs xs qs → (∀ q ∈ qs, q ∉ rs) → ∃ ys ps, RpAll K S1 H1 ys zs ps ∧ (qs.Nodup → ps.Nodup) ∧ (∀ p ∈ ps, p ∈ qs ∨ p ∈ rs) ∧ ys = vs ++ ws) :
    ∃ l vs, σ[i]? = some (some (.ref l)) ∧ H1 l = some (.lst vs) ∧ vs.length = xs.length ∧ Rl K P S0 H0 S1 (upd H1 l (.lst (vs ++ ws))) σ (put ρ i (.lst true zs)) := by
  have R1 := R.grow g
  obtain ⟨ps, it, nd, fr0⟩ := R.it
  obtain ⟨v, qs, ps', h1, h2, h3, h4, h5⟩ := it.pick i e
  have fr1 : ∀ p ∈ ps, S1 p = none := fun p hp => by
    cases e : S1 p with
    | none => rfl
    | some u =>
      obtain ⟨o, ho⟩ := it.there p hp
      have z := g.nw p u e (fr0 p hp).2
      rw [ho] at z; cases z
  have nrs : ∀ p ∈ ps, p ∉ rs := fun p hp hr => by
    obtain ⟨o, ho⟩ := it.there p hp
    have z := (fr.2 p hr).1
    rw [ho] at z; cases z
  have h2' := h2.mono g.ss g.hh
  cases h2' with
  | @lstO l vs _ qs' hl ra =>
    have hin : ∀ q, q ∈ l :: qs' → q ∈ ps := fun q hq => (h4 q).mpr (.inr hq)
    obtain ⟨n1, n2, n3⟩ := h5 nd
    have n2' := List.nodup_cons.mp n2
    obtain ⟨ys, ps2, ra2, nd2, sub2, rfl⟩ := hz vs qs' ra (fun q hq => nrs q (hin q (List.mem_cons_of_mem _ hq)))
    have hlps : l ∉ ps2 := fun z => by
      rcases sub2 l z with z | z
      · exact n2'.1 z
      · exact nrs l (hin l (List.mem_cons_self ..)) z
    have hl' : l ∉ ps' := fun z => n3 l z (List.mem_cons_self ..)
    have it1 : Its K S1 (upd H1 l (.lst (vs ++ ws))) σ (ρ.set i none) ps' := (h3.mono g.ss g.hh).set hl'
    have rp : Rp K S1 (upd H1 l (.lst (vs ++ ws))) (.ref l) (.lst true zs) (l :: ps2) := .lstO upd_same (ra2.set hlps)
    have hi : i < ρ.length := (List.getElem?_eq_some_iff.mp e).1
    obtain ⟨ps3, a1, a2, a3⟩ := it1.put rp i (by simpa using hi)
    have e1 : put (ρ.set i none) i (.lst true zs) = put ρ i (.lst true zs) := by simp [put]
    have e2 : σ.set i (some (.ref l)) = σ := by
      obtain ⟨hlt, hv⟩ := List.getElem?_eq_some_iff.mp h1
      rw [← hv]; exact List.set_getElem_self hlt
    rw [e1, e2] at a1
    have hH0 : H0 l = none := (fr0 l (hin l (List.mem_cons_self ..))).1
    have hS1 : S1 l = none := fr1 l (hin l (List.mem_cons_self ..))
    refine ⟨l, vs, h1, hl, ra.length, ⟨R.pn, ⟨same_set R1.gr.hh hH0, R1.gr.ss, same_set R1.gr.sh hS1, R1.gr.nw⟩, ps3, a1, ?_, fun p hp => ?_⟩⟩
    · refine a3 n1 (List.nodup_cons.mpr ⟨hlps, nd2 n2'.2⟩) fun p hp hq => ?_
      rcases List.mem_cons.mp hq with rfl | hq
      · exact hl' hp
      · rcases sub2 p hq with z | z
        · exact n3 p hp (List.mem_cons_of_mem _ z)
        · exact nrs p ((h4 p).mpr (.inl hp)) z
    · rcases a2 p hp with z | z
      · have hp' := (h4 p).mpr (.inl z)
        exact ⟨(fr0 p hp').1, fr1 p hp'⟩
      · rcases List.mem_cons.mp z with rfl | z
        · exact ⟨hH0, hS1⟩
        · rcases sub2 p z with z | z
          · have hp' := hin p (List.mem_cons_of_mem _ z)
            exact ⟨(fr0 p hp').1, fr1 p hp'⟩
          · exact ⟨none_back R.gr.hh (fr.2 p z).1, (fr.2 p z).2⟩
section
variable {cl : Cl} {P : Pins} {X : Cx} {W : WX} {st : Stmt} {rest a b : List Stmt} {e c o : Expr} {f : E} {F G' : Sd} {pos apos cpos : Pos}
theorem ds_app (i : Nat) (ho : PE X o (tVar i)) (he : DE cl X W e f)
    (hbase : attributeBase o "append" X.env (eval o X.env) = eval o X.env := by rfl)
    (hfew : ((backTo cpos (starEach [e] X.env)).all (fun x => !x.1) && (backToKw cpos (keywordEach [] X.env)).all (fun x => x.1.isSome)
      && decide (([e] : List Expr).length + ([] : List Keyword).length + (if ([] : List Keyword).isEmpty then 0 else 1) < 30)) = true := by rfl)
    (hline : (apos.endLine == cpos.line) = true := by rfl) (hs : starEach [e] X.env = [(false, eval e X.env)] := by rfl)
    (hsw : swapsWith (.Call (.Attribute o "append" apos) [e] [] cpos) none pos.line X.env = pure false := by rfl) :
    DS cl P X W (.Expr (.Call (.Attribute o "append" apos) [e] [] cpos) pos) (sApp i f) := by
  obtain ⟨t, pt, q⟩ := he.pf
  refine ⟨_, ps_expr (pe_bm PySem.F.plainAttrs_list PySem.F.slot_list_append PySem.F.type_list_append mt_append ho (pa_cons pt pa_nil hs) hbase hfew hline hs) hsw, fun S0 H0 S H σ ρ Dn R z => ?_⟩
  unfold sApp at z
  rcases get_cases ρ i with eg | ⟨d0, eg⟩
  · rw [eg] at z; exact z.elim
  · rw [eg] at z
    cases d0 with
    | lst ow xs =>
      cases ow with
      | false => exact z.elim
      | true =>
        have z : PostS cl X.K P W S0 H0 (sE (f ρ) ρ fun d => if xs.length < LINE then .nx (put ρ i (.lst true (xs ++ [d]))) else .no) Dn := z
        have eg' := get_some eg
        obtain ⟨v0, q0, hv0, rv0⟩ := R.look.2 i _ eg'
        obtain ⟨l, vs0, _, rfl, hl0, _⟩ := rv0.lst R.gr.sh
        refine ⟨.ref l, hv0, .inl ⟨rfl, vs0, .inl (.inl hl0)⟩, ?_⟩
        refine q σ ρ S H _ R.look R.gr.sh (stmt_e R z ?_)
        intro d v S' H' qs hr g fr rp R' z1
        by_cases hlen : xs.length < LINE
        · simp only [hlen, if_true] at z1
          obtain ⟨l', vs, h1, h2, h3, h4⟩ := rl_mut (ws := [v]) (zs := xs ++ [d]) R eg' g fr (fun vs qs' ra hd => ⟨vs ++ [v], qs' ++ qs, ra.append (by simpa using RpAll.cons rp RpAll.nil), fun nd => List.nodup_append.mpr ⟨nd, fr.1, fun a ha b hb z => hd a ha (z ▸ hb)⟩, fun p hp => List.mem_append.mp hp, rfl⟩)
          rw [hv0] at h1; cases h1
          exact ⟨l, vs, v, rfl, rfl, h2, by rw [h3, line_eq]; exact hlen, z1 S' _ σ h4⟩
        · simp only [hlen, if_false] at z1; exact z1.elim
    | _ => exact z.elim
theorem ds_ext (i : Nat) (ho : PE X o (tVar i)) (he : DE cl X W e f)
    (hbase : attributeBase o "extend" X.env (eval o X.env) = eval o X.env := by rfl)
    (hfew : ((backTo cpos (starEach [e] X.env)).all (fun x => !x.1) && (backToKw cpos (keywordEach [] X.env)).all (fun x => x.1.isSome)
      && decide (([e] : List Expr).length + ([] : List Keyword).length + (if ([] : List Keyword).isEmpty then 0 else 1) < 30)) = true := by rfl)
    (hline : (apos.endLine == cpos.line) = true := by rfl) (hs : starEach [e] X.env = [(false, eval e X.env)] := by rfl)
    (hsw : swapsWith (.Call (.Attribute o "extend" apos) [e] [] cpos) none pos.line X.env = pure false := by rfl) :
    DS cl P X W (.Expr (.Call (.Attribute o "extend" apos) [e] [] cpos) pos) (sExt i f) := by
  obtain ⟨t, pt, q⟩ := he.pf
  refine ⟨_, ps_expr (pe_bm PySem.F.plainAttrs_list PySem.F.slot_list_extend PySem.F.type_list_extend mt_extend ho (pa_cons pt pa_nil hs) hbase hfew hline hs) hsw, fun S0 H0 S H σ ρ Dn R z => ?_⟩
  unfold sExt at z
  rcases get_cases ρ i with eg | ⟨d0, eg⟩
  · rw [eg] at z; exact z.elim
  · rw [eg] at z
    cases d0 with
    | lst ow xs =>
      cases ow with
      | false => exact z.elim
      | true =>
        have z : PostS cl X.K P W S0 H0 (sE (f ρ) ρ fun d => match d with
          | .lst _ ys => if xs.length + ys.length ≤ LINE then .nx (put ρ i (.lst true (xs ++ ys))) else .no
          | _ => .no) Dn := z
        have eg' := get_some eg
        obtain ⟨v0, q0, hv0, rv0⟩ := R.look.2 i _ eg'
        obtain ⟨l, vs0, _, rfl, hl0, _⟩ := rv0.lst R.gr.sh
        refine ⟨.ref l, hv0, .inl ⟨rfl, vs0, .inl (.inl hl0)⟩, ?_⟩
        refine q σ ρ S H _ R.look R.gr.sh (stmt_e R z ?_)
        intro d v S' H' qs hr g fr rp R' z1
        cases d with
        | lst o2 ys =>
          have z1 : PostS cl X.K P W S0 H0 (if xs.length + ys.length ≤ LINE then .nx (put ρ i (.lst true (xs ++ ys))) else .no) Dn := z1
          by_cases hlen : xs.length + ys.length ≤ LINE
          · rw [if_pos hlen] at z1
            obtain ⟨b, ws, qs2, rfl, hb, rb, sub, nd2⟩ : ∃ b ws qs2, v = .ref b ∧ H' b = some (.lst ws) ∧ RpAll X.K S' H' ws ys qs2 ∧ (∀ q ∈ qs2, q ∈ qs) ∧ qs2.Nodup := by
              cases rp with
              | lstS q1 r1 z => exact ⟨_, _, [], rfl, g.sh _ _ q1, r1, (fun _ z => nomatch z), List.nodup_nil⟩
              | lstO q1 r1 => exact ⟨_, _, _, rfl, q1, r1, fun q hq => List.mem_cons_of_mem _ hq, (List.nodup_cons.mp fr.1).2⟩
            have fr2 : Fresh H S' qs2 := ⟨nd2, fun q hq => fr.2 q (sub q hq)⟩
            obtain ⟨l', vs, h1, h2, h3, h4⟩ := rl_mut (ws := ws) (zs := xs ++ ys) R eg' g fr2 (fun vs qs' ra hd => ⟨vs ++ ws, qs' ++ qs2, ra.append rb, fun nd => List.nodup_append.mpr ⟨nd, nd2, fun a ha b hb z => hd a ha (z ▸ hb)⟩, fun p hp => List.mem_append.mp hp, rfl⟩)
            rw [hv0] at h1; cases h1
            exact ⟨l, b, vs, ws, rfl, rfl, h2, hb, by rw [h3, rb.length, line_eq]; exact hlen, z1 S' _ σ h4⟩
          · rw [if_neg hlen] at z1; exact z1.elim
        | _ => exact z1.elim
    | _ => exact z.elim
def SG (K : PySem.W.Frag) (P : Pins) (g : TG) (b : B) : Prop := ∀ (S0 H0 S H : Hp) (σ : L2.St) (ρ ρ1 : Env) (v : V) (d : D) (qs : List Addr) (Q : L2.St → Hp → Prop), Rl K P S0 H0 S H σ ρ → Rp K S H v d qs → b d ρ = .ok ρ1 →
  (∀ σ1, Rl K P S0 H0 S H σ1 ρ1 → Q σ1 H) → g v σ H Q
theorem rl_bind {K : PySem.W.Frag} {P : Pins} {S0 H0 S H : Hp} {σ : L2.St} {ρ : Env} (R : Rl K P S0 H0 S H σ ρ) {v : V} {d : D} {qs : List Addr} (r : Rp K S H v d qs) (hs : d.sh = true) (i : Nat) (hp : P i = none) : Rl K P S0 H0 S H (σ.set i (some v)) (put ρ i d) := by
  by_cases hl : i < ρ.length
  · exact R.put (Grow.refl R.gr.sh) Fresh.nil ((r.sh hs).2 H) hl hp
  · have e1 : put ρ i d = ρ := List.set_eq_of_length_le (Nat.not_lt.mp hl)
    have e2 : σ.set i (some v) = σ := List.set_eq_of_length_le (by rw [R.look.1]; exact Nat.not_lt.mp hl)
    rw [e1, e2]; exact R
theorem sg_name {K : PySem.W.Frag} {P : Pins} (i : Nat) (hp : P i = none := by rfl) : SG K P (gName i) (bN i) := by
  intro S0 H0 S H σ ρ ρ1 v d qs Q R r e k
  unfold bN at e
  split at e
  · rename_i hs
    cases e
    exact k _ (rl_bind R r hs i hp)
  · cases e
theorem sg_names {K : PySem.W.Frag} {P : Pins} : ∀ (is : List Nat) (hp : (is.all fun i => (P i).isNone) = true) (vs : List V) (ds : List D) (ps : List Addr) (S0 H0 S H : Hp) (σ : L2.St) (ρ ρ1 : Env) (Q : L2.St → Hp → Prop), Rl K P S0 H0 S H σ ρ → RpAll K S H vs ds ps → bNs is ds ρ = .ok ρ1 →
    (∀ σ1, Rl K P S0 H0 S H σ1 ρ1 → Q σ1 H) → (is.foldr (fun i u => gCons (gName i) u) gNil) vs σ H Q
  | [], _, vs, ds, ps, S0, H0, S, H, σ, ρ, ρ1, Q, R, r, e, k => by
    cases r with
    | nil => cases e; exact ⟨rfl, k σ R⟩
    | cons _ _ => cases e
  | i :: is, hp, vs, ds, ps, S0, H0, S, H, σ, ρ, ρ1, Q, R, r, e, k => by
    simp only [List.all_cons, Bool.and_eq_true, Option.isNone_iff_eq_none] at hp
    cases r with
    | nil => cases e
    | cons ra t =>
      unfold bNs at e
      split at e
      · rename_i hs
        exact ⟨_, _, rfl, sg_names is hp.2 _ _ _ S0 H0 S H _ _ ρ1 Q (rl_bind R ra hs i hp.1) t e k⟩
      · cases e
theorem bNs_len : ∀ (is : List Nat) (ds : List D) (ρ ρ1 : Env), bNs is ds ρ = .ok ρ1 → ds.length = is.length
  | [], [], _, _, _ => rfl
  | [], _ :: _, _, _, e => by cases e
  | _ :: _, [], _, _, e => by cases e
  | i :: is, d :: ds, ρ, ρ1, e => by
    unfold bNs at e
    split at e
    · simp [bNs_len is ds _ _ e]
    · cases e
theorem sg_tup {K : PySem.W.Frag} {P : Pins} (is : List Nat) (hp : (is.all fun i => (P i).isNone) = true := by rfl) : SG K P (gTup K is.length (is.foldr (fun i u => gCons (gName i) u) gNil)) (bT is) := by
  intro S0 H0 S H σ ρ ρ1 v d qs Q R r e k
  cases d with
  | tup o ds =>
    obtain ⟨a, vs, rs, rfl, h1, r1⟩ := r.tup R.gr.sh
    have e : bNs is ds ρ = .ok ρ1 := e
    exact ⟨a, vs, rfl, h1, by rw [r1.length, bNs_len is ds _ _ e], sg_names is hp vs ds rs S0 H0 S H σ ρ ρ1 Q R r1 e k⟩
  | _ => cases e
theorem ds_bind {tg : Expr} {g : TG} {bb : B} (he : DE cl X W e f) (hg : PG X tg g) (hb : SG X.K P g bb) (hs : swapsWithSole [tg] e pos.line X.env = pure false := by rfl) (hw : swappedStores [tg] e X.env = pure none := by rfl)
    (h1 : (assignEach [tg] X.env).map (·.2) = [assign tg X.env] := by rfl) : DS cl P X W (.Assign [tg] e pos) (sBind bb f) := by
  obtain ⟨t, pt, q⟩ := he.pf
  refine ⟨_, ps_asg pt hg hs hw h1, fun S0 H0 S H σ ρ Dn R z => ?_⟩
  refine q σ ρ S H _ R.look R.gr.sh (stmt_e R z ?_)
  intro d v S' H' qs hr g fr rp R' z1
  cases kb : (bb d ρ).nox with
  | no => rw [kb] at z1; exact z1.elim
  | ex c0 f0 => exact absurd kb (nox_noex _ _ _)
  | ok ρ1 =>
    rw [kb] at z1
    exact hb S0 H0 S' H' σ ρ ρ1 v d qs _ R' rp (nox_ok kb) fun σ1 R1 => z1 S' H' σ1 R1
def upE (H0 S : Hp) : Hp := fun a => match H0 a with
  | some o => some o
  | none => S a
theorem upE_none {H0 S : Hp} {a : Addr} (h : upE H0 S a = none) : H0 a = none ∧ S a = none := by
  unfold upE at h
  cases e : H0 a with
  | none => rw [e] at h; exact ⟨rfl, h⟩
  | some o => rw [e] at h; cases h
theorem gr_up {S0 H0 S S2 H2 : Hp} (g : Grow S0 H0 S2 H2) (s0 : Same S0 S) (ss : Same S S2) : Grow S (upE H0 S) S2 H2 := by
  refine ⟨fun b o hb => ?_, ss, g.sh, fun b o hb hn => ?_⟩
  · unfold upE at hb
    cases e : H0 b with
    | none => rw [e] at hb; exact g.sh b o (ss b o hb)
    | some u => rw [e] at hb; cases hb; exact g.hh b _ e
  · unfold upE
    have h0 : S0 b = none := none_back s0 hn
    rw [g.nw b o hb h0]; exact hn
theorem gr_down {S0 H0 S H S2 H2 : Hp} (g0 : Grow S0 H0 S H) (g : Grow S (upE H0 S) S2 H2) : Grow S0 H0 S2 H2 := by
  refine ⟨fun b o hb => g.hh b o (by unfold upE; rw [hb]), g0.ss.trans g.ss, g.sh, fun b o hb hn => ?_⟩
  cases e : S b with
  | some u => exact g0.nw b u e hn
  | none => exact (upE_none (g.nw b o hb e)).1
theorem rl_up {K : PySem.W.Frag} {P : Pins} {S0 H0 S S2 H2 : Hp} {σ : L2.St} {ρ : Env} (R : Rl K P S0 H0 S2 H2 σ ρ) (s0 : Same S0 S) (ss : Same S S2) : Rl K P S (upE H0 S) S2 H2 σ ρ := by
  obtain ⟨ps, it, nd, fr⟩ := R.it
  refine ⟨R.pn, gr_up R.gr s0 ss, ps, it, nd, fun p hp => ⟨?_, (fr p hp).2⟩⟩
  unfold upE
  rw [(fr p hp).1]; exact none_back ss (fr p hp).2
theorem rl_down {K : PySem.W.Frag} {P : Pins} {S0 H0 S H S2 H2 : Hp} {σ : L2.St} {ρ : Env} (g0 : Grow S0 H0 S H) (R : Rl K P S (upE H0 S) S2 H2 σ ρ) : Rl K P S0 H0 S2 H2 σ ρ := by
  obtain ⟨ps, it, nd, fr⟩ := R.it
  exact ⟨R.pn, gr_down g0 R.gr, ps, it, nd, fun p hp => ⟨(upE_none (fr p hp).1).1, (fr p hp).2⟩⟩
theorem loop_turn {K : PySem.W.Frag} {P : Pins} {S0 H0 S H : Hp} {o : Out} {k : Env → Out} {Dn : Ends} {N : L2.St → Hp → Prop} (g0 : Grow S0 H0 S H) (zz : PostS cl K P W S0 H0 (o.loop k) Dn)
    (hN : ∀ ρ S' H' σ, Rl K P S0 H0 S' H' σ ρ → Same S S' → PostS cl K P W S0 H0 (k ρ) Dn → N σ H') : PostS cl K P W S (upE H0 S) o { Dn with nx := N, ct := N, bk := Dn.nx } := by
  cases o with
  | no => exact zz
  | nx ρ => exact fun S' H' σ R => hN ρ S' H' σ (rl_down g0 R) R.gr.ss zz
  | ct ρ => exact fun S' H' σ R => hN ρ S' H' σ (rl_down g0 R) R.gr.ss zz
  | bk ρ => exact fun S' H' σ R => zz S' H' σ (rl_down g0 R)
  | rt d ρ => exact fun v S' H' σ R => zz v S' H' σ (rl_down g0 R)
  | xc c fs ρ => exact fun S' H' σ cls dd R x => zz S' H' σ cls dd (rl_down g0 R) x
theorem for_run {K : PySem.W.Frag} {g : TG} {bb : B} {tb : TS} {body : Sd} (hb : SG K P g bb)
    (qb : ∀ (S0 H0 S H : Hp) (σ : L2.St) (ρ : Env) (Dn : Ends), Rl K P S0 H0 S H σ ρ → PostS cl K P W S0 H0 (body ρ) Dn → tb Dn σ H)
    {S0 H0 S H : Hp} {σ : L2.St} {ρ : Env} {J : It} {ds : List D} {G : Hp → Prop} {Y : Nat → Hp → V → Hp → Prop} {Dn : Ends}
    (R : Rl K P S0 H0 S H σ ρ) (wk : Walk J ds.length G Y) (hG : ∀ H2, Same S H2 → G H2)
    (hY : ∀ i H2 x H3 S2 d, Same S H2 → Same S S2 → Same S2 H2 → ds[i]? = some d → Y i H2 x H3 → Same H2 H3 ∧ ∃ qs, Rp K S2 H3 x d qs)
    (z : PostS cl K P W S0 H0 (forL bb body ds ρ) Dn) :
    ∃ Wk : Nat → Nat → L2.St → Hp → Prop, (∃ m, Wk 0 m σ H) ∧ ∀ i m σ H, Wk i m σ H →
      (J.stop i H ∧ Dn.nx σ H) ∨ (J.go i H ∧ ∃ N : L2.St → Hp → Prop, (∀ σ' H', N σ' H' → ∃ m', m' < m ∧ Wk (i + 1) m' σ' H') ∧ ∀ x H', J.yld i H x H' → g x σ H' fun σ2 H2 => tb { Dn with nx := N, ct := N, bk := Dn.nx } σ2 H2) := by
  refine for_it wk (fun i σ H2 => ∃ S2 ρ2, Rl K P S0 H0 S2 H2 σ ρ2 ∧ Same S S2 ∧ PostS cl K P W S0 H0 (forL bb body (ds.drop i) ρ2) Dn) ⟨S, ρ, R, Same.refl _, by simpa using z⟩ ?_ ?_ ?_
  · rintro i σ H2 hi ⟨S2, ρ2, R2, ss, _⟩
    exact hG H2 (ss.trans R2.gr.sh)
  · rintro i x σ H2 H3 hi ⟨S2, ρ2, R2, ss, zz⟩ hy
    have hdi : ds[i]? = some ds[i] := List.getElem?_eq_getElem hi
    obtain ⟨s23, rs, rp⟩ := hY i H2 x H3 S2 _ (ss.trans R2.gr.sh) ss R2.gr.sh hdi hy
    rw [List.drop_eq_getElem_cons hi] at zz
    unfold forL at zz
    have R3 : Rl K P S0 H0 S2 H3 σ ρ2 := R2.grow ((Grow.refl R2.gr.sh).more s23)
    cases kb : (bb ds[i] ρ2).nox with
    | no => rw [kb] at zz; exact zz.elim
    | ex c0 f0 => exact absurd kb (nox_noex _ _ _)
    | ok ρ3 =>
      rw [kb] at zz
      have zz : PostS cl K P W S0 H0 ((body ρ3).loop (forL bb body (ds.drop (i + 1)))) Dn := zz
      refine hb S0 H0 S2 H3 σ ρ2 ρ3 x _ rs _ R3 rp (nox_ok kb) fun σ1 R1 => qb S (upE H0 S) S2 H3 σ1 ρ3 _ (rl_up R1 R.gr.ss ss) ?_
      exact loop_turn R.gr zz fun ρ4 S4 H4 σ4 R4 ss4 z4 => ⟨S4, ρ4, R4, ss4, z4⟩
  · rintro σ H2 ⟨S2, ρ2, R2, ss, zz⟩
    rw [List.drop_length] at zz
    exact zz S2 H2 σ R2
theorem ds_for {tg iter : Expr} {body : List Stmt} {g : TG} {bb : B} {it : I} {F : Sd} (hp : PassesOwn (model X.prog X.w) X.A X.env X.xe) (hc : X.calm = true) (hi : DI true cl X W tg iter it) (hg : PG X tg g) (hb : SG X.K P g bb) (hbd : DSs cl P X W body F)
    (hs : ∀ x, foldedSetIterable iter X.env x = pure x := by intro _; rfl) : DS cl P X W (.For tg iter body [] pos) (sFor it bb F) := by
  obtain ⟨wi, pi, qi⟩ := hi.pf
  obtain ⟨tb, pb, qb⟩ := hbd.pf
  refine ⟨_, ps_for hp hc pi hg pb hs, fun S0 H0 S H σ ρ Dn R z => qi σ ρ S H _ R.look R.gr.sh ?_⟩
  unfold sFor at z
  cases k1 : it ρ with
  | no => rw [k1] at z; exact z
  | ex c' fs => rw [k1] at z; exact fun S' H' cls dd g x => z S' H' σ cls dd (R.grow g) x
  | ok ds =>
    rw [k1] at z
    intro J S' H' G Y g1 wk hG hY
    exact for_run hb qb (R.grow g1) wk hG hY z
theorem ds_while {c : Expr} {f : E} {body : List Stmt} {F : Sd} (fuel : Nat) (hp : PassesOwn (model X.prog X.w) X.A X.env X.xe) (hc : DT cl X W c f) (hbd : DSs cl P X W body F) : DS cl P X W (.While c body [] pos) (sWhile fuel f F) := by
  obtain ⟨tc, pc, qc⟩ := hc.pf
  obtain ⟨tb, pb, qb⟩ := hbd.pf
  refine ⟨_, ps_while hp pc pb, fun S0 H0 S H σ ρ Dn R z => ?_⟩
  refine ⟨fun m σ2 H2 => ∃ S2 ρ2, Rl X.K P S0 H0 S2 H2 σ2 ρ2 ∧ PostS cl X.K P W S0 H0 (whL f F m ρ2) Dn, ⟨fuel, S, ρ, R, z⟩, ?_⟩
  rintro m σ2 H2 ⟨S2, ρ2, R2, zz⟩
  cases m with
  | zero => exact zz.elim
  | succ m =>
    unfold whL at zz
    refine qc σ2 ρ2 S2 H2 _ R2.look R2.gr.sh (stmt_t (by intro d hd; cases d <;> first | rfl | exact absurd rfl (hd _)) R2 zz ?_)
    intro b S' H' g R' z1
    cases b with
    | false => exact z1 S' H' σ2 R'
    | true =>
      refine ⟨fun σ3 H3 => ∃ S3 ρ3, Rl X.K P S0 H0 S3 H3 σ3 ρ3 ∧ PostS cl X.K P W S0 H0 (whL f F m ρ3) Dn, fun σ' H'' h => ⟨m, Nat.lt_succ_self _, h⟩, ?_⟩
      exact qb S' (upE H0 S') S' H' σ2 ρ2 _ (rl_up R' R'.gr.ss (Same.refl _)) (loop_turn R'.gr z1 fun ρ4 S4 H4 σ4 R4 _ z4 => ⟨S4, ρ4, R4, z4⟩)
theorem Rl.last {K : PySem.W.Frag} {P : Pins} {S0 H0 S H : Hp} {σ : L2.St} {ρ : Env} {v : V} {d : D} (R : Rl K P S0 H0 S H (σ ++ [some v]) (ρ ++ [some d])) : ∃ qs, Fresh H0 S qs ∧ Rp K S H v d qs := by
  obtain ⟨ps, it, nd, fr⟩ := R.it
  have hl : σ.length = ρ.length := by simpa using it.look.1
  obtain ⟨v', qs, ps', h1, h2, h3, h4, h5⟩ := it.pick ρ.length (d := d) (by simp)
  rw [← hl] at h1
  simp at h1
  subst h1
  exact ⟨qs, ⟨(h5 nd).2.1, fun q hq => fr q ((h4 q).mpr (.inr hq))⟩, h2⟩
theorem its_start {K : PySem.W.Frag} {S H : Hp} : ∀ {vs : List V} {ds : List D} {ps : List Addr} (n : Nat), RpAll K S H vs ds ps → Its K S H (vs.map some ++ List.replicate n none) (ds.map some ++ List.replicate n none) ps
  | _, _, _, n, .nil => by
    simp only [List.map_nil, List.nil_append]
    induction n with
    | zero => exact .nil
    | succ n ih => exact .skip ih
  | _, _, _, n, .cons r t => .item r (its_start n t)
theorem fn_ok {P : Program} {w : World} {K : PySem.W.Frag} {mg : Str → Option Value} {base : Heap} {x qual : Str} {st : Stmt} {fA : Addr} {fd : FuncData} {N ps : List Str} {k : Nat} {body : Sd} (Fn : Fun K x qual st fA fd) (Sc : FnScope N ps (defScope st))
    (hbody : ∀ (cdv : Value) (A : Around) (outer : List PySem.Env) (s : Shared) (H : Hp) (E : XK), Room k (A.deeper (PyProof.Rows.envOfC qual (defScope st) s.heap.objs.size fA cdv)) →
      DSs cl (fun _ => none) (cxOf (L2.CX P w) P w K mg base N qual (defScope st) fA cdv A outer s H E) (fun cls d _ H => E cls d H) (defBody st) body) :
    FnOk P w K mg base (L2.CX P w) (k + 1) fA fd ps (spD cl K ps.length (runF N.length body)) := by
  refine Fn.okX Sc (fun vs H Q E h => ?_) (fun cdv A outer s H vs Q E hr h => ?_)
  · obtain ⟨S, ds, _, ra, _, hl, _⟩ := h
    rw [ra.length, hl]
  · obtain ⟨S, ds, ss, ra, hsh, hl, hd⟩ := h
    obtain ⟨t, pt, q⟩ := (hbody cdv A outer s H E hr).pf
    refine ⟨t, pt, q S H S H (L2.start N vs) (ds.map some ++ List.replicate (N.length - ds.length) none) _ ⟨(fun _ _ z => nomatch z), Grow.refl ss, [], ?_, List.nodup_nil, fun _ z => nomatch z⟩ ?_⟩
    · unfold L2.start
      rw [ra.length]
      exact its_start _ ra
    · unfold runF at hd
      cases k1 : body (ds.map some ++ List.replicate (N.length - ds.length) none) with
      | no => rw [k1] at hd; exact hd
      | nx ρ => rw [k1] at hd; exact fun S' H' σ R => hd .non S' H' [] R.gr Fresh.nil .non
      | bk ρ => rw [k1] at hd; exact hd.elim
      | ct ρ => rw [k1] at hd; exact hd.elim
      | rt d ρ =>
        rw [k1] at hd
        intro v S' H' σ R
        obtain ⟨qs, f, rp⟩ := R.last
        exact hd v S' H' qs R.gr f rp
      | xc c fs ρ => rw [k1] at hd; exact fun S' H' σ cls dd R x => hd S' H' cls dd R.gr x
end
end G
set_option maxHeartbeats 1000000
namespace G
open PySem PySem.Spec PyProof.Rows L2
theorem walk_X {l : PySem.W.OpenLaw} {n k : Nat} {q : Program} {loose : List Str} {XP : (Str → Option Value) → Heap → Prop} {YP : World → Heap → Prop} {d : DefRec} {K : Params → PySem.W.Frag} {CX : World → CXT} {sp : World → Sp} {x : Str}
    (hn : l.most = some n) (hn2 : n ≤ sizeLine) (hdf : d.params.defaults = []) (hr : Room k callerA)
    (hY : ∀ (w : World) (h : Heap), YP w h → (K w.params).In h)
    (F : ∀ (w : World) (mg : Str → Option Value) (fa : Addr) (h : Heap), (K w.params).In h → h.Ns mainGlobals mg → XP mg h → mg d.name = some (.ref fa) →
      ∃ fd : FuncData, (∀ (s : Shared) (u : Value), BindsTo s fd ⟨[u], []⟩ [(x, u)]) ∧
        ∀ base : Heap, (K w.params).In base → base.Ns mainGlobals mg → FnOk l.prog w (K w.params) mg base (CX w) k fa fd [x] (sp w))
    (hsp : ∀ (w : World) (H : Hp) (a : Addr) (ns : List Int), ns.length ≤ n → Only H → SqL (K w.params) H a (ns.map V.int) → sp w [.ref a] H (fun v _ => v = .bl true) fun _ _ _ => False)
    (hCX : ∀ (w : World) (H : Hp) (s : Shared) (e : Value) (s' : Shared), CX w [] H s (fun _ _ _ => False) e s' → False) :
    PySem.W.WalkO q loose XP YP l.row.toRowW d [] (fun f vs => PySem.call f vs) := by
  refine Att.attach_call hn hdf fun w s₀ s₁ mg mb fa o pm cd doc a vs ns G Y ho hd hcd hmg hobj hints hlen hg => ?_
  have KX := hY w _ Y
  obtain ⟨fd, hb, hF⟩ := F w mg fa _ KX G.T.g G.X hmg
  exact law_call KX G.T.g G.T.b G.T.builtins G.T.nolimit hg hobj hints (Nat.le_trans hlen hn2) hr hF hb (fun H hO hS => hsp w H a ns hlen hO hS) fun H e s' => hCX w H s₁ e s'
theorem loose_str {p : Program} {lv : List (Str × PySem.W.WData)} {mg : Str → Option Value} {h : Heap} {x s : Str} (X : PySem.W.XL p lv mg h) (m : (x, PySem.W.WData.str s) ∈ lv) : ∃ t, mg x = some (.str s t) := by
  obtain ⟨v, h1, h2⟩ := X.2.val _ m
  cases h2
  exact ⟨_, h1⟩
theorem law_sp {cl : Cl} {K : PySem.W.Frag} {den : List D → Res D} {H : Hp} {a : Addr} {ns : List Int} (hS : SqL K H a (ns.map V.int)) (hd : den [.scr ns] = .ok (.bl true)) : spD cl K 1 den [.ref a] H (fun v _ => v = .bl true) (fun _ _ _ => False) := by
  refine ⟨H, [.scr ns], Same.refl _, ?_, rfl, rfl, ?_⟩
  · have := RpAll.cons (Rp.scr (K := K) (S := H) (H := H) ns hS) RpAll.nil
    simpa using this
  · rw [hd]
    intro v S' H' qs _ _ rp
    cases rp
    rfl
theorem law_cx {P : Program} {w : World} {H : Hp} {s : Shared} {e : Value} {s' : Shared} (h : L2.CX P w [] H s (fun _ _ _ => False) e s') : False := by
  obtain ⟨_, _, _, _, _, _, _, _, _, _, _, _, z⟩ := h
  exact z
theorem de_gs {cl : Cl} {X : Cx} {W : WX} {x : Str} {pos : Pos} {s : Tx} (hg : Gl X x) (hm : ∃ t, X.mg x = some (.str (tS s) t)) (k : s.all (fun c => decide (c < 0x110000)) = true) (hd : (x == ("__debug__" : Str)) = false := by decide) : DE cl X W (.Name x pos) (eC (.str s)) := by
  obtain ⟨t, hm⟩ := hm
  exact de_c (v := .str (tS s)) (pe_glob hg hm ⟨t, rfl⟩ hd) fun _ _ => .str s (by simpa using k)
theorem de_gi {cl : Cl} {X : Cx} {W : WX} {x : Str} {pos : Pos} {i : Int} (hg : Gl X x) (hm : ∃ t, X.mg x = some (.int i t)) (hd : (x == ("__debug__" : Str)) = false := by decide) : DE cl X W (.Name x pos) (eC (.int i)) := by
  obtain ⟨t, hm⟩ := hm
  exact de_c (v := .int i) (pe_glob hg hm ⟨t, rfl⟩ hd) fun _ _ => .int i
end G
set_option maxHeartbeats 1000000
namespace G
open PySem L2
section
variable {cl : Cl} {X : Cx} {W : WX} {e a b c : Expr} {es : List Expr} {f g h : E} {fs : List E} {pos p : Pos}
theorem de_chn {op op' : CmpOp} {r r' : R2} {F F' : D → D → Option D} (ho : OpR X (compareOp op) r) (ho' : OpR X (compareOp op') r') (o : Op2 X r F) (o' : Op2 X r' F') (ha : DO cl X W a f) (hb : DO cl X W b g) (hc : DO cl X W c h)
    (hm : lastMarks [op, op'] [b, c] = false := by with_unfolding_all rfl) : DE cl X W (.Compare a [op, op'] [b, c] pos) (eChain F F' f g h) :=
  de_chain ho ho' o o' ha hb hc fun _ _ _ h1 h2 h3 => pe_chain ho ho' h1 h2 h3 hm
theorem dt_chain {op op' : CmpOp} {r r' : R2} {F F' : D → D → Option D} (ho : OpR X (compareOp op) r) (ho' : OpR X (compareOp op') r') (o : Op2 X r F) (o' : Op2 X r' F') (ha : DO cl X W a f) (hb : DO cl X W b g) (hc : DO cl X W c h)
    (hm : lastMarks [op, op'] [b, c] = false := by with_unfolding_all rfl) : DT cl X W (.Compare a [op, op'] [b, c] pos) (eChain F F' f g h) := by
  obtain ⟨t, pt, q⟩ := (de_chain (e := .Compare a [op, op'] [b, c] pos) ho ho' o o' ha hb hc (fun ta tb tc pa pb pc => pe_chain ho ho' pa pb pc hm)).pf
  obtain ⟨ta, pa, qa⟩ := ha.pf
  obtain ⟨tb, pb, qb⟩ := hb.pf
  obtain ⟨tc, pc, qc⟩ := hc.pf
  refine ⟨_, pt_chain ho ho' pa pb pc hm, fun σ ρ S H Q l s z => ?_⟩
  have key : ∀ Q' : VK, PostE cl X.K W σ S H (eChain F F' f g h ρ) Q' → tChain r r' ta tb tc σ H Q' := by
    intro Q' z
    refine qa σ ρ S H _ l s ((post_bind z).imp ?_)
    rintro v H1 ⟨d, S1, qs, e, g1, rp, z1⟩
    refine qb σ ρ S1 H1 _ (l.mono g1) g1.sh ((post_bind z1).imp ?_)
    rintro u H2 ⟨d2, S2, rs, e2, g2, rp2, z2⟩
    cases k : F d d2 with
    | none => rw [k] at z2; exact z2.elim
    | some d' =>
      rw [k] at z2
      refine o S2 H2 v u d d2 d' qs rs _ g2.sh (rp.mono g2.ss g2.hh) rp2 k ?_
      intro w S3 H3 ps g3 f3 rp3
      have z3 := PostE.on g3 z2
      cases d' with
      | bl kk =>
        cases rp3
        refine ⟨kk, rfl, ?_⟩
        cases kk with
        | true =>
          refine qc σ ρ S3 H3 _ ((l.mono g1).mono (g2.trans g3)) g3.sh ((post_bind (show PostE cl X.K W σ S3 H3 ((h ρ).bind fun z => Res.of (F' d2 z)) Q' from z3)).imp ?_)
          rintro w H4 ⟨d4, S4, ts, e4, g4, rp4, z4⟩
          cases k4 : F' d2 d4 with
          | none => rw [k4] at z4; exact z4.elim
          | some d5 =>
            rw [k4] at z4
            exact o' S4 H4 u w d2 d4 d5 rs ts Q' g4.sh (rp2.mono (g3.trans g4).ss (g3.trans g4).hh) rp4 k4 z4
        | false => exact z3 _ S3 H3 [] (Grow.refl g3.sh) Fresh.nil (.bl false)
      | _ => exact z3.elim
  refine key _ ?_
  cases k : eChain F F' f g h ρ with
  | no => rw [k] at z; exact z
  | ex c fs => rw [k] at z; exact z
  | ok d =>
    rw [k] at z
    cases d with
    | bl bb => exact fun v S' H' qs g _ rp => by cases rp; exact ⟨bb, rfl, z S' H' g⟩
    | _ => exact z.elim
theorem de_ix (hs : PlainIx b) (ha : DO cl X W a f) (hb : DO cl X W b g) : DE cl X W (.Subscript a b pos) (e2 fIx f g) := de_2 (fun _ _ h1 h2 => pe_ix ix_seq h1 h2 hs) o_ix ha hb
theorem dt_isN {j : Nat} {p2 : Pos} (ha : DO cl X W a f) : DT cl X W (.Compare a [.Is] [.Constant .none j p2] pos) (e1 fIsN f) := by
  obtain ⟨ta, pa, qa⟩ := ha.pf
  refine ⟨_, pt_cmpR op_isN pa pe_non (nomark _), fun σ ρ S H Q l s z => ?_⟩
  refine qa σ ρ S H _ l s ((post_bindT z).imp ?_)
  rintro v H1 ⟨d, S1, qs, e, g1, rp, z1⟩
  exact ⟨rfl, _, rfl, by rw [non_iff rp]; exact z1 S1 H1 (Grow.refl g1.sh)⟩
theorem dt_notN {j : Nat} {p2 : Pos} (ha : DO cl X W a f) : DT cl X W (.Compare a [.IsNot] [.Constant .none j p2] pos) (e1 fNotN f) := by
  obtain ⟨ta, pa, qa⟩ := ha.pf
  refine ⟨_, pt_cmpR op_notN pa pe_non (nomark _), fun σ ρ S H Q l s z => ?_⟩
  refine qa σ ρ S H _ l s ((post_bindT z).imp ?_)
  rintro v H1 ⟨d, S1, qs, e, g1, rp, z1⟩
  exact ⟨rfl, _, rfl, by rw [non_iff rp]; exact z1 S1 H1 (Grow.refl g1.sh)⟩
theorem de_dnew : DE cl X W (.Dict [] [] pos) eD0 := by
  refine ⟨_, pe_dnewK, fun σ ρ S H Q l s z => fun p hp => ?_⟩
  refine z (.ref p) S _ [p] ((Grow.refl s).more (same_new hp)) ⟨by simp, fun q hq => ?_⟩ (.dicO upd_same ⟨rfl, fun _ z => nomatch z⟩ .nil)
  have e : q = p := by simpa using hq
  subst e
  exact ⟨hp, none_back s hp⟩
end
end G
set_option maxHeartbeats 1000000
namespace G
open PySem L2
theorem rangeC_get {lo c : Int} {n i : Nat} {d : D} (h : (rangeC lo c n)[i]? = some d) : d = .int (lo + (i : Nat) * c) := by
  unfold rangeC at h
  rw [List.getElem?_map] at h
  obtain ⟨k, hk, rfl⟩ := Option.map_eq_some_iff.mp h
  obtain ⟨h1, h2⟩ := List.getElem?_eq_some_iff.mp hk
  rw [List.getElem_range] at h2
  rw [h2]
theorem rangeSize_up {i j c : Int} (hc : 0 < c) : Builtin.Range.rangeSize i j c = (turnsC i j c : Nat) := by
  unfold Builtin.Range.rangeSize turnsC
  rw [if_pos (by omega)]
  split
  · have e : j - i + c - 1 = (j - i - 1) + 1 * c := by omega
    rw [e, Int.add_mul_ediv_right _ _ (by omega)]
    have : 0 ≤ (j - i - 1) / c := Int.ediv_nonneg (by omega) (by omega)
    omega
  · have : (j - i + c - 1) / c ≤ 0 := by
      have : (j - i + c - 1) / c < 1 := Int.ediv_lt_of_lt_mul hc (by omega)
      omega
    omega
theorem small_up {i j c : Int} (h1 : fits62 i = true) (h2 : fits62 j = true) (hc : 0 < c) (hc2 : c < 1073741824) : Builtin.Range.small i j c = true := by
  simp only [fits62, Bool.and_eq_true, decide_eq_true_eq] at h1 h2
  have e : Builtin.Range.rangeSize i j c ≤ 9223372036854775807 ∧ 0 ≤ Builtin.Range.rangeSize i j c := by
    unfold Builtin.Range.rangeSize
    rw [if_pos (by omega)]
    split
    · have a1 : 0 ≤ (j - i - 1) / c := Int.ediv_nonneg (by omega) (by omega)
      have a2 : (j - i - 1) / c ≤ j - i - 1 := Int.ediv_le_self _ (by omega)
      omega
    · omega
  unfold Builtin.Range.small
  generalize Builtin.Range.rangeSize i j c = n at e
  simp only [Builtin.Range.rangeFitsLong, Bool.and_eq_true, Bool.or_eq_true, decide_eq_true_eq, beq_iff_eq]
  rw [if_pos (show c > 0 from hc)]
  simp only [Bool.and_eq_true, decide_eq_true_eq]
  omega
section
variable {cl : Cl} {X : Cx} {W : WX} {tg e a b c : Expr} {es : List Expr} {f g h : E} {fs : List E} {pos p : Pos}
theorem di_range3v {shr : Bool} (hg : Gl X "range") (hm : X.mg "range" = none) (ha : DO cl X W a f) (hb : DO cl X W b g) (hc : DO cl X W c h)
    (hs : starEach [a, b, c] X.env = (false, eval a X.env) :: starEach [b, c] X.env := by rfl) (hpl : (backTo pos (starEach [b, c] X.env)).any (·.1) = false := by rfl)
    (hs1 : starEach [b, c] X.env = [(false, eval b X.env), (false, eval c X.env)] := by rfl) (hs2 : starEach [c] X.env = [(false, eval c X.env)] := by rfl) :
    DI shr cl X W tg (.Call (.Name "range" p) [a, b, c] [] pos) (iRange3v f g h) := by
  obtain ⟨ta, pa, qa⟩ := ha.pf
  obtain ⟨tb, pb, qb⟩ := hb.pf
  obtain ⟨tc, pc, qc⟩ := hc.pf
  refine ⟨_, pi_range3 hg hm (pa_cons pa (pa_cons pb (pa_cons pc pa_nil hs2) (by rw [hs1, hs2])) (by rw [hs, hs1])) hs hpl, fun σ ρ S H R l s z => ?_⟩
  refine qa σ ρ S H _ l s ((post_bindI z).imp ?_)
  rintro v H1 ⟨d, S1, qs, e, g1, rp, z1⟩
  refine qb σ ρ S1 H1 _ (l.mono g1) g1.sh ((post_bindI z1).imp ?_)
  rintro u H2 ⟨d2, S2, rs, e2, g2, rp2, z2⟩
  refine qc σ ρ S2 H2 _ ((l.mono g1).mono g2) g2.sh ((post_bindI z2).imp ?_)
  rintro u3 H3 ⟨d3, S3, rs3, e3, g3, rp3, z3⟩
  cases d with
  | int i =>
    cases d2 with
    | int j =>
      cases d3 with
      | int k =>
        cases rp; cases rp2; cases rp3
        cases hf : (fits62 i && fits62 j && decide (0 < k) && decide (k < 1073741824)) with
        | false => simp only [hf] at z3; exact z3.elim
        | true =>
          simp only [hf, if_true] at z3
          simp only [Bool.and_eq_true, decide_eq_true_eq] at hf
          obtain ⟨⟨⟨f1, f2⟩, f3⟩, f4⟩ := hf
          refine ⟨i, j, k, turnsC i j k, rfl, ⟨by omega, by omega, small_up f1 f2 f3 f4, rangeSize_up f3⟩, z3 _ S3 H3 (fun _ => True) (YFn fun n => .int (i + (n : Nat) * k)) (Grow.refl g3.sh) (by rw [show (rangeC i k (turnsC i j k)).length = turnsC i j k by simp [rangeC]]; exact walk_rangeC) (fun _ _ => trivial) ?_⟩
          rintro m H2 x H3 S2 d s2 s3 s4 hd ⟨rfl, rfl⟩
          rw [rangeC_get hd]
          exact ⟨Same.refl _, [], .int _⟩
      | _ => exact z3.elim
    | _ => exact z3.elim
  | _ => exact z3.elim
end
end G
set_option maxHeartbeats 4000000
namespace G
open PySem PySem.Spec PySem.Calls PyProof.Rows PySem.W
section
variable {prog : Program} {w : World} {A : Around} {E : Value → Shared → Prop} {s : Shared} {K : Frag} {x D : Addr} {ox : Obj} {od : Option Obj}
theorem findObj_dataO {C : Addr} {name : Str} {a g : Value} (hc : (clsIn K C).isSome = true) (ha : findIn K (.ref C) name = some (some a)) (hg : specialIn K a "__get__" = some (some g)) (ht : takesIn K a = some true) : findObj K C od name = some (.bind g a) := by
  obtain ⟨cd, hc⟩ := Option.isSome_iff_exists.mp hc
  unfold findObj
  rw [hc, Option.bind_some, ha, Option.bind_some]
  simp [hg, ht]
theorem class_of_exc {Q : Option Value → Shared → Prop} (C : L2.ExcC K D) (X : K.In s.heap) (I : InstAt s.heap x ox D od) (h : Q (some (.ref D)) { s with toks := s.toks + 1 }) : wpAny (model prog w) A (getAttr? (.ref x) "__class__") Q E s := by
  have hf : findObj K D od "__class__" = some (.bind (.builtin "getset_descriptor.__get__") (.builtin "object.__class__")) := findObj_dataO (by obtain ⟨cd, hc, _⟩ := any_some C.hd; rw [hc]; rfl) C.ha C.hn C.ht
  obtain ⟨hp, g, d, t, os⟩ := s
  have l0 := I.type (M := model prog w)
  have l1 := looks_findIn (M := model prog w) X C.hg
  have l2 := looks_findIn (M := model prog w) X C.hk
  have l3 := looks_find (M := model prog w) X I hf
  have sub : Looks (model prog w) hp (isInstance (.ref x) (.type "BaseException")) true := l0.andThen (looks_subIn X C.hs)
  have n1 : (Value.builtin "BaseException.__getattribute__" == Value.builtin "object.__getattribute__") = false := by decide +kernel
  unfold getAttr? getAttrBy? getAttrBy
  refine wpAny_bind (wpAny_mkText (wpAny_bind (wpAny_attempt (wpAny_holding (wpAny_bind (l0.at (wpAny_bind (l1.at ?_))))))))
  show wpAny _ _ (if (onTheHeap (Value.ref D) && Value.builtin "BaseException.__getattribute__" == Value.builtin "object.__getattribute__") = true then _ else _) _ _ _
  rw [n1, Bool.and_false, if_neg Bool.false_ne_true]
  unfold getAttrByItsOwn hookBefore
  refine wpAny_bind ?_
  rw [if_pos (show onTheHeap (Value.ref D) = true from rfl)]
  refine l2.at (wpAny_bind (wpAny_attempt (wpAny_holding ?_)))
  unfold callGetattribute
  rw [show (false && onTheHeap (Value.builtin "BaseException.__getattribute__")) = false from rfl, if_neg Bool.false_ne_true]
  unfold boundAndCalled
  rw [PySem.F.excAttr_ValueError.ga.bind (.ref x)]
  refine wpAny_bind (wpAny_pure ?_)
  show wpAny _ _ (call (.builtin "BaseException.__getattribute__") [.ref x, .str "__class__" t]) _ _ _
  refine wpAny_call (codeAny_call_builtin PySem.F.excAttr_ValueError.ga.plain PySem.F.entry_bexc_ga ?_)
  refine @check_slot (model prog w) _ _ ⟨hp, g, d, t + 1, os⟩ "BaseException.__getattribute__" "BaseException" "__getattribute__" (.ref x) [.str "__class__" t] [] _ (by decide +kernel) (by decide +kernel) sub (PySem.F.args_bexc_ga (.ref x) (.str "__class__" t)) ?_
  unfold Builtin.«object.__getattribute__»
  refine wpAny_bind (wpAny_of_eq (a := ((Value.ref x : Value), [Value.str "__class__" t])) (by first | rfl | (simp only [slotArgs]; rfl)) ?_)
  refine wpAny_bind (wpAny_pure (wpAny_bind (l0.at (wpAny_bind (l3.at ?_)))))
  show wpAny _ _ (holding [Value.builtin "object.__class__"] (call (.builtin "getset_descriptor.__get__") [.builtin "object.__class__", .ref x, .ref D]) >>= ret) _ _ _
  refine wpAny_bind (wpAny_holding (wpAny_call (class_get (s := ⟨hp, g, d, t + 1, os⟩) (ox := ox) (od := od) X I C.hm ?_)))
  refine wpAny_pure ?_
  show wpAny _ _ (handedOut (.ref D)) _ _ _
  rw [handedOut_of (v := .ref D) rfl]
  first
    | exact wpAny_pure (wpAny_pure h)
    | exact wpAny_pure h
    | exact wpAny_pure (wpAny_bind (wpAny_pure (wpAny_pure h)))
theorem kitx_exc (C : L2.ExcC K D) : KitX K (.ref x) (.ref D) (fun h => ∃ ox od, InstAt h x ox D od) := by
  obtain ⟨cdD, hcD, _⟩ := any_some C.hd
  have hl : ∃ o, K.lookup D = some o ∧ ∃ c, o.data = .cls c := by
    unfold clsIn at hcD
    split at hcD
    · rename_i c' d' cd' sl' ho
      exact ⟨_, ho, _, rfl⟩
    · cases hcD
  obtain ⟨o, ho, c, hc⟩ := hl
  refine ⟨fun _ _ _ ⟨_, _, I⟩ => I.type, fun _ _ X _ => ?_, fun h tp dd its n sl X htp => ?_, fun X ⟨_, _, I⟩ k => class_of_exc C X I k⟩
  · intro A' Q' E' s' k q
    unfold isType loadHead
    refine wpAny_bind (wpAny_loadPart (k _ _ (X _ _ ho)) ?_)
    obtain ⟨a1, a2, a3, a4⟩ := o
    simp only at hc
    subst hc
    exact wpAny_pure q
  · refine Bool.eq_false_iff.mpr fun q => ?_
    have e : D = tp := Value.ref.inj (beq_iff_eq.mp q)
    subst e
    have z := (X _ _ ho).symm.trans htp
    cases z
    cases hc
end
end G
namespace G
open PySem PySem.Spec PyProof.Rows L2
def rIsX (K : PySem.W.Frag) : List V → Hp → VK → Prop := fun xs H Q => ∃ (a D : Addr) (dd : Option Addr) (c : V) (cv : Value) (b : Bool), xs = [.ref a, c] ∧ (∀ u, RelV c u → u = cv) ∧ H a = some (exV a D dd) ∧ (∀ d, dd = some d → ∃ fs, H d = some (.xd fs)) ∧
  ExcC K D ∧ PySem.W.kitOne K (.ref D) cv = some b ∧ Q (.bl b) H
theorem exV_inst {P : Program} {w : World} {H : Hp} {h : Heap} {a D : Addr} {dd : Option Addr} (x : HOk P w H h) (e : H a = some (exV a D dd)) (ed : ∀ d, dd = some d → ∃ fs, H d = some (.xd fs)) : ∃ ox od, PySem.W.InstAt h a ox D od := by
  obtain ⟨⟨oe, vs, h1, h2, h3⟩, _, _⟩ := x a _ e
  have no : PySem.W.notCls oe = true := by unfold PySem.W.notCls; rw [h3]
  cases dd with
  | none => exact ⟨oe, none, h1, h2.1, no, by rw [h2.2]; trivial⟩
  | some d =>
    obtain ⟨fs, hf⟩ := ed d rfl
    obtain ⟨mA, hns, _⟩ := x d _ hf
    obtain ⟨od, ho, _⟩ := lookIn_ns hns
    exact ⟨oe, some od, h1, h2.1, no, by rw [h2.2]; exact ho⟩
theorem call_isX {X : Cx} : CallR X (.builtin "isinstance") (rIsX X.K) := by
  intro pins s σ H xs us Q I r h
  obtain ⟨a, D, dd, c, cv, b, rfl, hcv, ha, hd, C, e, q⟩ := h
  cases r with
  | cons rx rr =>
    cases rr with
    | cons rt rr =>
      cases rr
      cases rx
      have ec := hcv _ rt
      subst ec
      exact PySem.W.kia_one (kitx_exc C) I.kIn (exV_inst I.hok ha hd) e (fun z => nomatch z) fun tk => ⟨.bl b, H, I.kept (t' := tk) fun _ _ z => z, rfl, q⟩
section
variable {cl : Cl} {P : Pins} {X : Cx} {W : WX} {e a b c : Expr} {es : List Expr} {f g h : E} {fs : List E} {pos p p2 : Pos}
theorem o_isX {sup : String → Option Bool} {cv : V} {cu : Value} (hr : ∀ u, RelV cv u → u = cu) (hk : ∀ c b, sup c = some b → ExcC X.K (clK X.K c) ∧ PySem.W.kitOne X.K (.ref (clK X.K c)) cu = some b) : Op1 X (fun v => rIsX X.K [v, cv]) (fIsX sup) := by
  intro S H x dx d ps Q s rx e k
  cases rx with
  | @xcp a c fs vs dd q f =>
    have hfs : ∃ r, fs = "!" :: r := by
      rcases f with ⟨rfl, _, _⟩ | ⟨_, _, _, _, rfl, _, _⟩ <;> exact ⟨_, rfl⟩
    obtain ⟨r, rfl⟩ := hfs
    have e' : (sup c).map D.bl = some d := e
    obtain ⟨b, hb, rfl⟩ := Option.map_eq_some_iff.mp e'
    obtain ⟨k1, k2⟩ := hk c b hb
    refine ⟨a, clK X.K c, dd, cv, cu, b, rfl, hr, s _ _ q, fun d hd => ?_, k1, k2, newV s (.bl _) k⟩
    rcases f with ⟨_, _, h3⟩ | ⟨d', l, p, h1, _, _, h4⟩
    · rw [h3] at hd; cases hd
    · rw [h1] at hd; cases hd; exact ⟨_, s _ _ h4⟩
  | @insS a dx c fs fv ds q k2 r z =>
    have : ∃ r, fs = "!" :: r := by
      unfold fIsX at e; split at e
      · rename_i o' c' r' vs' e'; cases e'; exact ⟨_, rfl⟩
      · cases e
    obtain ⟨r', rfl⟩ := this
    exact absurd (List.mem_cons_self ..) k2.2
  | @insO a dx c fs fv ds ps q k2 r =>
    have : ∃ r, fs = "!" :: r := by
      unfold fIsX at e; split at e
      · rename_i o' c' r' vs' e'; cases e'; exact ⟨_, rfl⟩
      · cases e
    obtain ⟨r', rfl⟩ := this
    exact absurd (List.mem_cons_self ..) k2.2
  | _ => simp [fIsX] at e
theorem de_isX {sup : String → Option Bool} {cv : V} {cu : Value} (hr : ∀ u, RelV cv u → u = cu) (hk : ∀ c b, sup c = some b → ExcC X.K (clK X.K c) ∧ PySem.W.kitOne X.K (.ref (clK X.K c)) cu = some b)
    (ht : PE X b (tC cv)) (hg : Gl X "isinstance") (hm : X.mg "isinstance" = none) (ha : DO cl X W a f)
    (hs : starEach [a, b] X.env = (false, eval a X.env) :: starEach [b] X.env := by rfl) (hs2 : starEach [b] X.env = [(false, eval b X.env)] := by rfl) (hpl : (backTo pos (starEach [b] X.env)).any (·.1) = false := by rfl) : DE cl X W (.Call (.Name "isinstance" p) [a, b] [] pos) (e1 (fIsX sup) f) :=
  de_1 (r := fun v => rIsX X.K [v, cv]) (fun ta pa => pe_callB call_isX hg hm (by decide +kernel) (pa_cons pa (pa_cons ht pa_nil hs2) hs) (by decide) (by decide) hs hpl) (o_isX hr hk) ha
theorem ds_raise {x m : Str} {j : Nat} {C : Addr} {c : String} {bmB : List Value} {B newId initId : String} {ppos : Pos} (hc : X.calm = true) (tk : Takes X W) (F : ExcBaseFacts B newId initId bmB) (q : PySem.W.excIn X.K C bmB newId = true) (gC : X.mg x = some (.ref C)) (kC : PySem.W.keepIn X.K (.ref C) = true)
    (r : Raises X (.ref C)) (hg : Gl X x) (hcl : cl c = C) (hdb : (x == ("__debug__" : Str)) = false := by decide) : DS cl P X W (.Raise (some (.Call (.Name x p) [.Constant (.str m) j p2] [] pos)) none ppos) (sRaise c) := by
  refine ⟨_, ps_raise hc tk (pmk_own F q gC kC r hg hdb), fun S0 H0 S H σ ρ Dn R z => ?_⟩
  exact z S H σ (.ref C) none R ⟨by rw [hcl], rfl⟩
end
end G
set_option maxHeartbeats 4000000
namespace G
open PySem PySem.Spec PyProof.Rows L2
section
variable {X : Cx} {pins : List (Addr × Obj)} {σ : L2.St} {H : Hp} {s : Shared}
theorem track {a C : Addr} {d : Option Addr} {oe : Obj} {vs : Array Value} (I : Inv X pins σ H s) (ha : s.heap.get? a = some oe) (hz : Zc (.ref C) d oe) (hd : oe.data = .fields vs) (na : H a = none) (n0 : X.s_0.heap.get? a = none) (nL : a ≠ X.env.locals) (nP : ∀ p ∈ X.pn ++ pins, p.1 ≠ a) :
    Inv X pins σ (upd H a (exV a C d)) s := by
  have ne : ∀ {b : Addr} {u : HO}, H b = some u → b ≠ a := fun h z => by rw [z, na] at h; cases h
  refine ⟨I.ok, I.os, I.bare, ⟨I.base.keep, I.base.slot, fun b o e n hx => ?_, I.base.there, fun b xs e => ?_, fun b o u e => ?_, fun b ps e => ?_⟩, I.loc, I.cell, ?_, fun x c e => ?_, fun p hp => ?_, ?_, I.len⟩
  · rw [upd_ne (fun z => by rw [z, n0] at e; cases e)]; exact I.base.free b o e n hx
  · have q := I.base.tups b xs e; rw [upd_ne (ne q)]; exact q
  · have q := I.base.frzs b o u e; rw [upd_ne (ne q)]; exact q
  · obtain ⟨m, q⟩ := I.base.tbls b ps e; exact ⟨m, by rw [upd_ne (ne q)]; exact q⟩
  · rw [upd_ne (Ne.symm nL)]; exact I.free
  · obtain ⟨v, o, ho, hc⟩ := I.cell x c e
    rw [upd_ne (fun z => by subst z; rw [ha] at ho; cases ho; rw [hd] at hc; cases hc)]; exact I.freeC x c e
  · obtain ⟨q1, q2, q3⟩ := I.pin p hp
    exact ⟨q1, by rw [upd_ne (nP p hp)]; exact q2, q3⟩
  · exact HOk.laidN I.hok (fun _ _ q => q) na ⟨⟨oe, vs, ha, hz, hd⟩, ⟨oe, ha⟩, fun h1 h2 ⟨o, v, q, r⟩ k => ⟨o, v, k o q, r⟩⟩
end
def wKeep (K : PySem.W.Frag) (c : Value) (i : Nat) (ts : Addr → Value → Option Addr → TS) (Wout : WX) (D : Ends) : WX := fun cls d σ H =>
  ∃ b, PySem.W.exmOne K cls c = some b ∧ (b = true → ∀ a, H a = none → ∃ C, cls = .ref C ∧ ts a cls d { nx := fun σ' H' => D.nx (σ'.set i none) (upd H' a (exV a C d)), rt := fun _ _ => False, bk := fun _ _ => False, ct := fun _ _ => False } (σ.set i (some (.ref a))) H) ∧
    (b = false → Wout cls d σ H)
section
variable {X : Cx} {x n : Str} {c : Value} {i : Nat} {body suite : List Stmt} {b₀ : Stmt} {np pos pos' : Pos} {tb : WX → TS} {ts : Addr → Value → Option Addr → TS} {Wout : WX}
theorem ps_try_keep (hs : X.stack = X.env :: X.outer) (hf : X.env.frame = some X.env.locals) (hex : X.ex = []) (hN : X.N.Nodup) (hi : X.N[i]? = some n) (hln : X.env.kindOf n = some .local) (hc : Names X x c) (tk : Takes X Wout)
    (hb : ∀ (W : WX) (pn : List (Addr × Obj)) (xe : Value → Shared → Prop), Takes (X.tr pn xe) W → PassesOwn (model X.prog X.w) X.A X.env xe → PSs (X.tr pn xe) body (tb W))
    (hsu : ∀ (a : Addr) (oe : Obj) (cls : Value) (d : Option Addr) (pn : List (Addr × Obj)), Zc cls d oe → (∃ vs, oe.data = .fields vs) → PSs (X.suite a ((a, oe) :: pn)) (b₀ :: suite) (ts a cls d)) :
    PS X (.Try body [.ExceptHandler (some (.Name x np)) (some n) (b₀ :: suite) pos'] [] [] pos) (fun D σ H => tb (wKeep X.K c i ts Wout D) D σ H) := by
  refine ⟨fun pins s σ H D I h => ?_⟩
  have ok := I.ok
  have hfr : X.A.frames = some (X.env :: X.outer) := by rw [ok.frames, hs]
  have hloc : Loc X.env.scope n := .inl hln
  refine wpAny_Try_except ?_
  refine wpAny_mono ((hb (wKeep X.K c i ts Wout D) (X.pn ++ pins) (fun e s₁ => wpAny (model X.prog X.w) X.A (noteFrame e X.env) (fun _ s₂ => wpAny (model X.prog X.w) X.A (setFlight e none) (fun _ s₃ =>
    wpAny (model X.prog X.w) X.A (handleBy e X.env [.ExceptHandler (some (.Name x np)) (some n) (b₀ :: suite) pos']) (SP X pins D) X.xe s₃) X.xe s₂) X.xe s₁) (fun u s' xx => ?_) PassesOwn.looking).run [] s σ H D (I.toTry _) h) (fun f s1 hsp => ?_) (fun e s1 he => he)
  · obtain ⟨a, B, sI, pins', σ', H', cls, d, rfl, J', nb, up, sky, na, os, ag, b, hb1, hyes, hno⟩ := xx
    have J : Inv X pins σ' H' sI := J'.ofTry ok
    have sky' : Sky B (X.env :: X.outer) a (Zc cls d) X.env.locals s'.heap := by rw [← hs]; exact sky
    show wpAny (model X.prog X.w) X.A (noteFrame (.ref a) X.env) _ _ _
    refine Sky.land Zc.steady hfr hf sky' fun h3 fl3 up3 => ?_
    have J3 : Inv X pins σ' H' { s' with heap := h3 } := J.landed nb fl3.1 (up.trans up3) os ag
    obtain ⟨oe3, vs3, he3, hz3, hd3⟩ := fl3.there
    have nfr : a ∉ frs (X.env :: X.outer) := fun hm => by
      obtain ⟨_, o', e', hnf⟩ := fl3.2.2.1.mem hm
      rw [he3] at e'; cases e'
      exact hnf _ hd3
    have nL : a ≠ X.env.locals := fun z => nfr (List.mem_filterMap.mpr ⟨X.env, List.mem_cons_self, by rw [hf, z]⟩)
    have nF : a ∉ X.fs := fun hm => by
      obtain ⟨e, he, q⟩ := List.mem_filterMap.mp hm
      exact nfr (List.mem_filterMap.mpr ⟨e, List.mem_cons_of_mem _ he, q⟩)
    have hI : sI.heap.get? a = none := by
      cases e : sI.heap.get? a with
      | none => rfl
      | some o =>
        have z := nb a o e (by rw [show (X.tr (X.pn ++ pins) _).stack = X.stack from rfl, hs]; exact nfr)
        rw [fl3.2.1] at z; cases z
    have n0 : X.s_0.heap.get? a = none := by
      cases e : X.s_0.heap.get? a with
      | none => rfl
      | some o =>
        obtain ⟨o', z⟩ := J.base.there a o e (by rw [hex]; exact fun z => nomatch z)
        rw [hI] at z; cases z
    have nP : ∀ p ∈ X.pn ++ pins, p.1 ≠ a := fun p hp z => by
      have q := (J.pin p hp).1
      rw [z, hI] at q; cases q
    have S3 := J3.suite he3 hd3 na nL nF
    refine wpAny_handleBy_cons (codeAny_handlers_test ?_) (by intro q; cases q)
    have LT : PySem.W.Looks (model X.prog X.w) h3 (typeOf (.ref a)) cls := fun A Q E s k q => wpAny_typeOf_ref (k _ _ he3) (by rw [hz3.1]; exact q)
    have LM := PySem.W.exm_one (M := model X.prog X.w) (J3.kIn) LT hb1
    have test : ∀ {Q : Value → Shared → Prop} {E : Value → Shared → Prop}, Q c { s' with heap := h3 } → wpAny (model X.prog X.w) (X.A.mark (some (.ref a))) (eval (.Name x np) X.env) Q E { s' with heap := h3 } := fun {Q E} q => by
      obtain ⟨hg, hdbg, hm | ⟨hm, hv, hnn⟩⟩ := hc
      · exact ld_glob (X := X.suite a ((a, oe3) :: (X.pn ++ pins))) S3 hg hm q hdbg
      · exact ld_blt (X := X.suite a ((a, oe3) :: (X.pn ++ pins))) S3 hg hm hv q hnn hdbg
    refine test (LM.here ?_)
    cases b with
    | true =>
      refine codeAny_handlers_suite_as ?_
      refine HandSPX.lands_againZ fl3 fun h4 fl4 up4 => ?_
      have J4 : Inv X pins σ' H' { s' with heap := h4 } := J.landed nb fl4.1 ((up.trans up3).trans up4) os ag
      obtain ⟨oe4, vs4, he4, hz4, hd4⟩ := fl4.there
      have S4 := J4.suite he4 hd4 na nL nF
      obtain ⟨C, rfl, hyes⟩ := hyes rfl a na
      refine store_ok (X := X.suite a ((a, oe4) :: (X.pn ++ pins))) (v := .ref a) S4 hN hi hloc rfl (fun s5 S5 => ?_) (.inr hln)
      refine wpAny_mono ((hsu a oe4 (.ref C) d (X.pn ++ pins) hz4 ⟨_, hd4⟩).run [] s5 _ H' _ S5 hyes) (fun f s6 hsp => ?_) (fun _ _ z => False.elim z)
      cases f with
      | next =>
        obtain ⟨σ6, H6, S6, q6⟩ := hsp
        refine gone_ok (X := X.suite a ((a, oe4) :: (X.pn ++ pins))) S6 hN hi hln fun s7 S7 => ?_
        obtain ⟨p1, p2, _⟩ := S7.pin (a, oe4) (List.mem_append_left _ List.mem_cons_self)
        exact ⟨_, _, track (S7.unsuite ok) p1 hz4 hd4 p2 n0 nL nP, q6⟩
      | brk => obtain ⟨_, _, _, q6⟩ := hsp; exact q6.elim
      | cont => obtain ⟨_, _, _, q6⟩ := hsp; exact q6.elim
      | ret u => obtain ⟨_, _, _, _, _, q6⟩ := hsp; exact q6.elim
    | false =>
      show wpAny _ X.A (handleBy (.ref a) X.env []) _ _ _
      refine wpAny_handleBy_nil ?_
      obtain ⟨k1, k2, k3, oe, vs, T, oT, ts', he, hz, hd, h1, hr⟩ := id fl3
      unfold PySem.passOn
      refine wpAny_bind (wpAny_field he hd h1 ?_)
      rw [if_neg (show ¬ ((Value.ref T == Value.none) = true) from by simp)]
      have fin : wpAny (model X.prog X.w) X.A (setFlight (.ref a) X.env.frame) (fun _ s4 => wpAny (model X.prog X.w) X.A (throw (.ref a) : Sem Flow) (SP X pins D) X.xe s4) X.xe { s' with heap := h3 } := by
        rw [hf]
        refine HandSPX.setFlight_upZ fl3 fun h4 hh4 up4 => wpAny_throw (tk _ _ ?_)
        exact ⟨a, B, sI, pins, σ', H', cls, d, rfl, J, nb, (up.trans up3).trans up4, .inr (.inr (by rw [hs]; exact hh4)), na, os, ag, hno rfl⟩
      first
        | exact wpAny_bind (wpAny_pure (wpAny_bind fin))
        | exact wpAny_bind fin
  · cases f with
    | next =>
      obtain ⟨σ', H', J', q⟩ := hsp
      exact wpAny_execs_nil ⟨σ', H', J'.ofTry ok, q⟩
    | brk =>
      obtain ⟨σ', H', J', q⟩ := hsp
      exact ⟨σ', H', J'.ofTry ok, q⟩
    | cont =>
      obtain ⟨σ', H', J', q⟩ := hsp
      exact ⟨σ', H', J'.ofTry ok, q⟩
    | ret u =>
      obtain ⟨v, σ', H', J', r, q⟩ := hsp
      exact ⟨v, σ', H', J'.ofTry ok, r, q⟩
end
end G
set_option maxHeartbeats 4000000
namespace G
open PySem PySem.Spec L2
def tSD (cl : Cl) (K : PySem.W.Frag) (P : Pins) (W : WX) (F : Sd) : TS := fun D σ H => ∃ S0 H0 S ρ, Rl K P S0 H0 S H σ ρ ∧ PostS cl K P W S0 H0 (F ρ) D
section
variable {cl : Cl} {P : Pins} {X : Cx} {W : WX} {body : List Stmt} {F : Sd}
theorem pss_den (h : DSs cl P X W body F) : PSs X body (tSD cl X.K P W F) := by
  obtain ⟨t, pt, q⟩ := h.pf
  exact ⟨fun pins s σ H D I ⟨S0, H0, S, ρ, R, z⟩ => pt.run pins s σ H D I (q S0 H0 S H σ ρ D R z)⟩
end
theorem Its.gone {K : PySem.W.Frag} {S H : Hp} : ∀ {σ : L2.St} {ρ : Env} {ps : List Addr} (i : Nat), Its K S H σ ρ ps → ∃ ps', Its K S H (σ.set i none) (ρ.set i none) ps' ∧ (∀ p ∈ ps', p ∈ ps) ∧ (ps.Nodup → ps'.Nodup)
  | _, _, _, _, .nil => ⟨[], .nil, fun _ h => h, fun h => h⟩
  | _, _, ps, 0, .skip t => ⟨ps, .skip t, fun _ h => h, fun h => h⟩
  | _, _, _, 0, .item (qs := qs) (ps := ps) r t => ⟨ps, .skip t, fun _ h => List.mem_append_right _ h, fun h => (List.nodup_append.mp h).2.1⟩
  | _, _, _, i + 1, .skip t => by
    obtain ⟨ps', a, b, c⟩ := Its.gone i t
    exact ⟨ps', .skip a, b, c⟩
  | _, _, _, i + 1, .item (qs := qs) (ps := ps) r t => by
    obtain ⟨ps', a, b, c⟩ := Its.gone i t
    refine ⟨qs ++ ps', .item r a, fun p hp => ?_, fun h => ?_⟩
    · rcases List.mem_append.mp hp with z | z
      · exact List.mem_append_left _ z
      · exact List.mem_append_right _ (b p z)
    · obtain ⟨h1, h2, h3⟩ := List.nodup_append.mp h
      exact List.nodup_append.mpr ⟨h1, c h2, fun x hx y hy z => h3 x hx y (b y hy) z⟩
section
variable {cl : Cl} {P : Pins} {X : Cx} {W : WX} {body : List Stmt} {F : Sd}
theorem rl_keep {K : PySem.W.Frag} {P : Pins} {S0 H0 S H : Hp} {σ : L2.St} {ρ : Env} {a : Addr} {c : String} {fs : List D} {cls : Value} {dd : Option Addr} {i j : Nat} (R : Rl K P S0 H0 S H σ ρ) (x : XR (clK K) S c fs cls dd) (na : H a = none) (hj : j < ρ.length) (hij : i ≠ j) (hpi : P i = none) (hpj : P j = none) :
    ∃ S', Rl K P S0 H0 S' (upd H a (exV a (clK K c) dd)) ((((σ.set i (some (.ref a))).set j (some (.ref a))).set i none)) ((put ρ j (xD c fs)).set i none) := by
  have nS : S a = none := none_back R.gr.sh na
  have g : Grow S H (upd S a (exV a (clK K c) dd)) (upd H a (exV a (clK K c) dd)) := by
    refine ⟨same_new na, same_new nS, fun b o h => ?_, fun b o h1 h2 => ?_⟩
    · by_cases hb : b = a
      · subst hb; rw [upd_same] at h ⊢; exact h
      · rw [upd_ne hb] at h ⊢; exact R.gr.sh b o h
    · by_cases hb : b = a
      · subst hb; exact na
      · rw [upd_ne hb] at h1; rw [h1] at h2; cases h2
  have rp : Rp K (upd S a (exV a (clK K c) dd)) (upd H a (exV a (clK K c) dd)) (.ref a) (xD c fs) [] := by
    obtain ⟨_, x⟩ := x
    split at x
    · exact .xcp upd_same (.inl ⟨rfl, rfl, x⟩)
    · rename_i l p
      obtain ⟨d, h1, h2⟩ := x
      refine .xcp upd_same (.inr ⟨d, l, p, h1, rfl, rfl, ?_⟩)
      rw [upd_ne (fun z => by rw [z, nS] at h2; cases h2)]; exact h2
    · exact x.elim
  have R1 := R.put g Fresh.nil rp hj hpj
  refine ⟨_, ⟨?_, R1.gr, ?_⟩⟩
  · have hset : ((σ.set i (some (V.ref a))).set j (some (.ref a))).set i none = (σ.set j (some (.ref a))).set i none := by
      rw [List.set_comm _ _ hij, List.set_set]
    rw [hset]; exact pn_set R1.pn hpi
  obtain ⟨ps, it, nd, fr⟩ := R1.it
  have hset : ((σ.set i (some (V.ref a))).set j (some (.ref a))).set i none = (σ.set j (some (.ref a))).set i none := by
    rw [List.set_comm _ _ hij, List.set_set]
  rw [hset]
  obtain ⟨ps2, i2, sub, nd2⟩ := it.gone i
  exact ⟨ps2, i2, nd2 nd, fun p hp => fr p (sub p hp)⟩
end
section
variable {P : Pins} {X : Cx} {W : WX} {body : List Stmt} {F : Sd} {x n r : Str} {c : Value} {i j : Nat} {np np2 rp apos pos pos' : Pos} {sup : String → Option Bool}
theorem ds_try_keep (hs : X.stack = X.env :: X.outer) (hf : X.env.frame = some X.env.locals) (hex : X.ex = []) (hN : X.N.Nodup) (hi : X.N[i]? = some n) (hln : X.env.kindOf n = some .local) (hj : X.N[j]? = some r) (hlr : X.env.scope.names.lookup r = some .local) (hij : i ≠ j)
    (hc : Names X x c) (tk : Takes X W) (hk : ∀ d b, sup d = some b → PySem.W.exmOne X.K (.ref (clK X.K d)) c = some b)
    (hb : ∀ (W : WX) (pn : List (Addr × Obj)) (xe : Value → Shared → Prop), Takes (X.tr pn xe) W → PassesOwn (model X.prog X.w) X.A X.env xe → DSs (clK X.K) P (X.tr pn xe) W body F)
    (hvn : Vis X.env.scope n) (hdn : (n == ("__debug__" : Str)) = false := by decide) (hcn : (n == ("__classdict__" : Str)) = false := by decide)
    (hsw : swapsWith (.Name n np2) (some (.Name r rp)) apos.line X.env = pure false := by rfl) (hpi : P i = none := by rfl) (hpj : P j = none := by rfl) :
    DS (clK X.K) P X W (.Try body [.ExceptHandler (some (.Name x np)) (some n) [.Assign [.Name r rp] (.Name n np2) apos] pos'] [] [] pos) (sTryKeep F sup i j) := by
  refine ⟨_, ps_try_keep (c := c) (i := i) (tb := fun W => tSD (clK X.K) X.K P W F) (ts := fun _ _ _ => tAsg (tVar i) (gName j)) hs hf hex hN hi hln hc tk (fun W pn xe t p => pss_den (hb W pn xe t p)) (fun a oe cls d pn hz hd => pss_one (ps_set (X := X.suite a ((a, oe) :: pn)) hN hj (.inl hlr) (pe_var hi hvn hdn hcn) hsw (.inr hlr))), fun S0 H0 S H σ ρ Dn R z => ?_⟩
  refine ⟨S0, H0, S, ρ, R, ?_⟩
  unfold sTryKeep at z
  cases k : F ρ with
  | no => rw [k] at z; exact z
  | nx ρ1 => rw [k] at z; exact z
  | bk ρ1 => rw [k] at z; exact z
  | ct ρ1 => rw [k] at z; exact z
  | rt d ρ1 => rw [k] at z; exact z
  | xc d fs ρ1 =>
    rw [k] at z
    intro S1 H1 σ1 cls dd R1 x1
    have hcls : cls = .ref (clK X.K d) := x1.1
    cases ks : sup d with
    | none => simp only [ks] at z; exact z.elim
    | some b =>
      simp only [ks] at z
      refine ⟨b, by rw [hcls]; exact hk d b ks, fun hb1 a na => ⟨clK X.K d, hcls, ?_⟩, fun hb1 => ?_⟩
      · subst hb1
        have hlen : σ1.length = ρ1.length := R1.look.1
        by_cases hlt : i < ρ1.length ∧ j < ρ1.length
        · simp only [hlt, and_self, if_true] at z
          refine ⟨.ref a, List.getElem?_set_self (by rw [hlen]; exact hlt.1), ?_⟩
          obtain ⟨S', R2⟩ := rl_keep (i := i) (j := j) R1 x1 na hlt.2 hij hpi hpj
          exact z S' _ _ R2
        · simp only [hlt, if_false] at z; exact z.elim
      · subst hb1
        exact z S1 H1 σ1 cls dd R1 x1
end
end G
set_option maxHeartbeats 1000000
namespace G
open PySem PySem.Spec L2
section
variable {K : PySem.W.Frag} {S H S' H' : Hp}
mutual
theorem Rp.keep (es : Same S S') : ∀ {v : V} {d : D} {ps : List Addr}, Rp K S H v d ps → (∀ x ∈ ps, ∀ o, H x = some o → H' x = some o) → Rp K S' H' v d ps
  | _, _, _, .non, _ => .non
  | _, _, _, .bl b, _ => .bl b
  | _, _, _, .int i, _ => .int i
  | _, _, _, .str s h, _ => .str s h
  | _, _, _, .scr ns q, _ => .scr ns (sql_mono es q)
  | _, _, _, .lstS q r s, _ => .lstS (es _ _ q) (RpAll.keep es r (fun _ z => nomatch z)) s
  | _, _, _, .lstO q r, h => .lstO (h _ (List.mem_cons_self ..) _ q) (RpAll.keep es r (fun x hx => h x (List.mem_cons_of_mem _ hx)))
  | _, _, _, .tupS q r s, _ => .tupS (sqt_mono es q) (RpAll.keep es r (fun _ z => nomatch z)) s
  | _, _, _, .tupO q r, h => .tupO (h _ (List.mem_cons_self ..) _ q) (RpAll.keep es r (fun x hx => h x (List.mem_cons_of_mem _ hx)))
  | _, _, _, .dicS q k r s, _ => .dicS (es _ _ q) k (RpAll.keep es r (fun _ z => nomatch z)) s
  | _, _, _, .dlk q k r s, _ => .dlk (es _ _ q) k (RpAll.keep es r (fun _ z => nomatch z)) s
  | _, _, _, .dicO q k r, h => .dicO (h _ (List.mem_cons_self ..) _ q) k (RpAll.keep es r (fun x hx => h x (List.mem_cons_of_mem _ hx)))
  | _, _, _, .xcp q f, _ => .xcp (es _ _ q) (f.mono es)
  | _, _, _, .insS q k r s, _ => .insS (es _ _ q) k (RpAll.keep es r (fun _ z => nomatch z)) s
  | _, _, _, .insO q k r, h => .insO (h _ (List.mem_cons_self ..) _ q) k (RpAll.keep es r (fun x hx => h x (List.mem_cons_of_mem _ hx)))
theorem RpAll.keep (es : Same S S') : ∀ {vs : List V} {ds : List D} {ps : List Addr}, RpAll K S H vs ds ps → (∀ x ∈ ps, ∀ o, H x = some o → H' x = some o) → RpAll K S' H' vs ds ps
  | _, _, _, .nil, _ => .nil
  | _, _, _, .cons r t, h => .cons (Rp.keep es r fun x hx => h x (List.mem_append_left _ hx)) (RpAll.keep es t fun x hx => h x (List.mem_append_right _ hx))
end
end
def KidsV (H : Hp) (a : Addr) (vs : List V) : Prop :=
  H a = some (.lst vs) ∨ H a = some (.tup vs) ∨ (∃ kvs, H a = some (.dK kvs) ∧ vs = kvs.map (·.2)) ∨ ∃ C dx fv, H a = some (.ins C dx fv) ∧ vs = fv.map (·.2)
def VAt (H : Hp) : V → List Nat → V → Prop
  | v0, [], v => v0 = v
  | v0, j :: p, v => ∃ a vs v1, v0 = .ref a ∧ KidsV H a vs ∧ vs[j]? = some v1 ∧ VAt H v1 p v
theorem KidsV.mono {H H' : Hp} {a : Addr} {vs : List V} (e : Same H H') (h : KidsV H a vs) : KidsV H' a vs := by
  rcases h with h | h | ⟨kvs, h, h2⟩ | ⟨C, dx, fv, h, h2⟩
  · exact .inl (e _ _ h)
  · exact .inr (.inl (e _ _ h))
  · exact .inr (.inr (.inl ⟨kvs, e _ _ h, h2⟩))
  · exact .inr (.inr (.inr ⟨C, dx, fv, e _ _ h, h2⟩))
theorem KidsV.det {H : Hp} {a : Addr} {vs ws : List V} (h : KidsV H a vs) (h' : KidsV H a ws) : vs = ws := by
  rcases h with h | h | ⟨kvs, h, h2⟩ | ⟨C, dx, fv, h, h2⟩ <;> rcases h' with k | k | ⟨kvs', k, k2⟩ | ⟨C', dx', fv', k, k2⟩ <;> rw [h] at k <;> cases k
  · rfl
  · rfl
  · rw [h2, k2]
  · rw [h2, k2]
theorem VAt.mono {H H' : Hp} (e : Same H H') : ∀ {p : List Nat} {v0 v : V}, VAt H v0 p v → VAt H' v0 p v
  | [], _, _, h => h
  | j :: p, _, _, ⟨a, vs, v1, h1, h2, h3, h4⟩ => ⟨a, vs, v1, h1, h2.mono e, h3, VAt.mono e h4⟩
theorem VAt.det {H : Hp} : ∀ {p : List Nat} {v0 v w : V}, VAt H v0 p v → VAt H v0 p w → v = w
  | [], _, _, _, h, h' => h.symm.trans h'
  | j :: p, _, _, _, ⟨a, vs, v1, h1, h2, h3, h4⟩, ⟨b, ws, w1, k1, k2, k3, k4⟩ => by
    rw [h1] at k1; cases k1
    have := h2.det k2; subst this
    rw [h3] at k3; cases k3
    exact VAt.det h4 k4
theorem VAt.app {H : Hp} {j : Nat} {a : Addr} {vs : List V} {v : V} : ∀ {p : List Nat} {v0 : V}, VAt H v0 p (.ref a) → KidsV H a vs → vs[j]? = some v → VAt H v0 (p ++ [j]) v
  | [], _, h, k, e => by cases h; exact ⟨a, vs, v, rfl, k, e, rfl⟩
  | i :: p, _, ⟨b, ws, w, h1, h2, h3, h4⟩, k, e => ⟨b, ws, w, h1, h2, h3, VAt.app h4 k e⟩
section
variable {K : PySem.W.Frag} {S H : Hp}
theorem Rp.kid {v0 : V} {d : D} {ps : List Addr} (h : Rp K S H v0 d ps) (ho : d.isO = true) : ∃ a vs qs, v0 = .ref a ∧ ps = a :: qs ∧ (∃ o, H a = some o) ∧ KidsV H a vs ∧ RpAll K S H vs d.kids qs ∧
    ∀ S' H' ds' qs', (∀ o, H a = some o → H' a = some o) → RpAll K S' H' vs ds' qs' → Rp K S' H' v0 (d.kset ds') (a :: qs') := by
  cases h with
  | lstO q r => exact ⟨_, _, _, rfl, rfl, ⟨_, q⟩, .inl q, r, fun S' H' ds' qs' ha ra => .lstO (ha _ q) ra⟩
  | tupO q r => exact ⟨_, _, _, rfl, rfl, ⟨_, q⟩, .inr (.inl q), r, fun S' H' ds' qs' ha ra => .tupO (ha _ q) ra⟩
  | dicO q k r => exact ⟨_, _, _, rfl, rfl, ⟨_, q⟩, .inr (.inr (.inl ⟨_, q, rfl⟩)), r, fun S' H' ds' qs' ha ra => .dicO (ha _ q) k ra⟩
  | insO q k r => exact ⟨_, _, _, rfl, rfl, ⟨_, q⟩, .inr (.inr (.inr ⟨_, _, _, q, rfl⟩)), r, fun S' H' ds' qs' ha ra => .insO (ha _ q) k ra⟩
  | _ => simp [D.isO] at ho
theorem RpAll.at : ∀ {vs : List V} {ds : List D} {ps : List Addr} {j : Nat} {d : D}, RpAll K S H vs ds ps → ds[j]? = some d → ∃ v pre mid post, ps = pre ++ (mid ++ post) ∧ vs[j]? = some v ∧ Rp K S H v d mid ∧
    ∀ S' H' d' mid', Same S S' → (∀ x, x ∈ pre ∨ x ∈ post → ∀ o, H x = some o → H' x = some o) → Rp K S' H' v d' mid' → RpAll K S' H' vs (ds.set j d') (pre ++ (mid' ++ post))
  | _, _, _, _, _, .nil, h => by simp at h
  | _, _, _, 0, _, .cons (ps := qs) (qs := rs) r t, h => by
    simp at h; subst h
    exact ⟨_, [], qs, rs, rfl, rfl, r, fun S' H' d' mid' es hk r' => by simpa using RpAll.cons r' (t.keep es fun x hx => hk x (.inr hx))⟩
  | _, _, _, j + 1, _, .cons (ps := qs) r t, h => by
    obtain ⟨v, pre, mid, post, h1, h2, h3, h4⟩ := RpAll.at (j := j) t (by simpa using h)
    refine ⟨v, qs ++ pre, mid, post, by rw [h1, List.append_assoc], by simpa using h2, h3, fun S' H' d' mid' es hk r' => ?_⟩
    have := RpAll.cons (r.keep (H' := H') es fun x hx => hk x (.inl (List.mem_append_left _ hx))) (h4 S' H' d' mid' es (fun x hx => hk x (hx.elim (fun z => .inl (List.mem_append_right _ z)) .inr)) r')
    simpa [List.append_assoc] using this
theorem Rp.focus : ∀ (p : List Nat) {v0 : V} {d d' : D} {ps : List Addr}, Rp K S H v0 d ps → atP p d = some d' → ∃ v pre mid post, ps = pre ++ (mid ++ post) ∧ VAt H v0 p v ∧ Rp K S H v d' mid ∧
    ∀ S' H' d'' mid', Same S S' → (∀ x, x ∈ pre ∨ x ∈ post → ∀ o, H x = some o → H' x = some o) → Rp K S' H' v d'' mid' → Rp K S' H' v0 (setP p d'' d) (pre ++ (mid' ++ post))
  | [], v0, d, d', ps, h, e => by
    cases e
    exact ⟨v0, [], ps, [], by simp, rfl, h, fun S' H' d'' mid' _ _ r => by simpa [setP] using r⟩
  | j :: p, v0, d, d', ps, h, e => by
    unfold atP at e
    split at e
    · rename_i ho
      obtain ⟨c, hc, e⟩ := Option.bind_eq_some_iff.mp e
      obtain ⟨a, vs, qs, rfl, rfl, ⟨o, hoa⟩, k1, r1, up1⟩ := h.kid ho
      obtain ⟨v1, pre1, mid1, post1, rfl, hv1, rc, up2⟩ := r1.at hc
      obtain ⟨v, pre2, mid, post2, rfl, hv, rd, up3⟩ := Rp.focus p rc e
      refine ⟨v, a :: (pre1 ++ pre2), mid, post2 ++ post1, by simp [List.append_assoc], ⟨a, vs, v1, rfl, k1, hv1, hv⟩, rd, fun S' H' d'' mid' es hk r => ?_⟩
      have r3 := up3 S' H' d'' mid' es (fun x hx => hk x (by simp; rcases hx with z | z <;> simp [z])) r
      have r2 := up2 S' H' _ _ es (fun x hx => hk x (by simp; rcases hx with z | z <;> simp [z])) r3
      have r1 := up1 S' H' _ _ (hk a (by simp)) r2
      unfold setP
      rw [hc]
      simpa [List.append_assoc] using r1
    · cases e
end
theorem nodup_mid {pre mid post : List Addr} (h : (pre ++ (mid ++ post)).Nodup) : mid.Nodup ∧ (∀ x ∈ mid, x ∉ pre ∧ x ∉ post) ∧ (pre ++ post).Nodup := by
  obtain ⟨h1, h2, h3⟩ := List.nodup_append.mp h
  obtain ⟨h4, h5, h6⟩ := List.nodup_append.mp h2
  refine ⟨h4, fun x hx => ⟨fun z => h3 x z x (List.mem_append_left _ hx) rfl, fun z => h6 x hx x z rfl⟩, List.nodup_append.mpr ⟨h1, h5, fun a ha b hb z => h3 a ha b (List.mem_append_right _ hb) z⟩⟩
theorem Its.init {K : PySem.W.Frag} {S H : Hp} {x : Option V} : ∀ {σ : L2.St} {ρ : Env} {ps : List Addr}, σ.length = ρ.length → Its K S H (σ ++ [x]) (ρ ++ [none]) ps → Its K S H σ ρ ps
  | [], [], _, _, h => by cases h with | skip t => exact t
  | [], _ :: _, _, hl, _ => by simp at hl
  | _ :: _, [], _, hl, _ => by simp at hl
  | _ :: σ, none :: ρ, _, hl, h => by
    cases h with
    | skip t => exact .skip (Its.init (by simpa using hl) t)
  | _ :: σ, some d :: ρ, _, hl, h => by
    cases h with
    | item r t => exact .item r (Its.init (by simpa using hl) t)
theorem Rl.drop {K : PySem.W.Frag} {P : Pins} {S0 H0 S H : Hp} {σ : L2.St} {ρ : Env} {v : V} {d : D} (R : Rl K P S0 H0 S H (σ ++ [some v]) (ρ ++ [some d])) (pn : ∀ i v, P i = some v → σ[i]? = some (some v)) :
    ∃ ps qs, Its K S H σ ρ ps ∧ Rp K S H v d qs ∧ (ps ++ qs).Nodup ∧ (∀ p ∈ ps ++ qs, H0 p = none ∧ S p = none) ∧ Rl K P S0 H0 S H σ ρ := by
  obtain ⟨ps, it, nd, fr⟩ := R.it
  have hl : σ.length = ρ.length := by simpa using it.look.1
  obtain ⟨v', qs, ps', h1, h2, h3, h4, h5⟩ := it.pick ρ.length (d := d) (by simp)
  rw [← hl] at h1
  simp at h1
  subst h1
  have e : (ρ ++ [some d]).set ρ.length none = ρ ++ [none] := by simp
  rw [e] at h3
  have h3' := Its.init hl h3
  obtain ⟨n1, n2, n3⟩ := h5 nd
  exact ⟨ps', qs, h3', h2, List.nodup_append.mpr ⟨n1, n2, fun a ha b hb z => n3 a ha (z ▸ hb)⟩, fun p hp => fr p ((h4 p).mpr (List.mem_append.mp hp)), ⟨pn, R.gr, ps', h3', n1, fun p hp => fr p ((h4 p).mpr (.inl hp))⟩⟩
theorem Rl.pull {K : PySem.W.Frag} {P : Pins} {S0 H0 S H : Hp} {σ : L2.St} {ρ : Env} {v : V} {d : D} (R : Rl K P S0 H0 S H (σ ++ [some v]) (ρ ++ [some d])) (pn : ∀ i v, P i = some v → σ[i]? = some (some v)) {i : Nat} (hp : P i = none) : Rl K P S0 H0 S H (σ.set i (some v)) (G.put ρ i d) := by
  obtain ⟨ps, qs, h1, h2, h3, h4, R1⟩ := R.drop pn
  obtain ⟨n1, n2, n3⟩ := List.nodup_append.mp h3
  by_cases hi : i < ρ.length
  · obtain ⟨ps2, a, b, c⟩ := h1.put h2 i hi
    exact ⟨pn_set pn hp, R.gr, ps2, a, c n1 n2 fun p hp hq => n3 p hp p hq rfl, fun p hp => h4 p (List.mem_append.mpr (b p hp))⟩
  · have e1 : G.put ρ i d = ρ := List.set_eq_of_length_le (Nat.not_lt.mp hi)
    have e2 : σ.set i (some v) = σ := List.set_eq_of_length_le (by rw [R1.look.1]; exact Nat.not_lt.mp hi)
    rw [e1, e2]; exact R1
theorem rl_place2 {K : PySem.W.Frag} {P : Pins} {S0 H0 S H : Hp} {σ : L2.St} {ρ : Env} {i : Nat} {d d' : D} {p : List Nat} (R : Rl K P S0 H0 S H σ ρ) (e : ρ[i]? = some (some d)) (hp : atP p d = some d') (ho : d'.isO = true) {S1 H1 : Hp} (g : Grow S H S1 H1) {fs : List Addr} (fr : Fresh H S1 fs) :
    ∃ v0 a qs, σ[i]? = some (some v0) ∧ VAt H1 v0 p (.ref a) ∧ VAt H v0 p (.ref a) ∧ Rp K S1 H1 (.ref a) d' (a :: qs) ∧ a ∉ qs ∧ (∀ q ∈ qs, q ∉ fs) ∧ a ∉ fs ∧ qs.Nodup ∧
      ∀ (u : HO) (d'' xd : D) (xv : V) (ws ys : List Addr), (∀ w ∈ ws ++ ys, w ∈ qs ∨ w ∈ fs) → (ws ++ ys).Nodup → Rp K S1 (upd H1 a u) (.ref a) d'' (a :: ws) → Rp K S1 (upd H1 a u) xv xd ys → Rl K P S0 H0 S1 (upd H1 a u) (σ ++ [some xv]) (put ρ i (setP p d'' d) ++ [some xd]) := by
  have R1 := R.grow g
  obtain ⟨ps, it, nd, fr0⟩ := R.it
  obtain ⟨v0, qs0, ps', h1, h2, h3, h4, h5⟩ := it.pick i e
  obtain ⟨v, pre, mid, post, rfl, hv, rd, up⟩ := (h2.mono g.ss g.hh).focus p hp
  obtain ⟨v', _, _, _, _, hv', _, _⟩ := h2.focus p hp
  obtain ⟨a, vs, qs, rfl, rfl, ⟨o, hoa⟩, _, _, _⟩ := rd.kid ho
  have hv2 : VAt H v0 p (.ref a) := by
    have := (hv'.mono g.hh).det hv
    subst this; exact hv'
  obtain ⟨n1, n2, n3⟩ := h5 nd
  obtain ⟨m1, m2, m3⟩ := nodup_mid n2
  obtain ⟨a1, a2⟩ := List.nodup_cons.mp m1
  have hin : ∀ q, q ∈ pre ++ (a :: qs ++ post) → q ∈ ps := fun q hq => (h4 q).mpr (.inr hq)
  have fr1 : ∀ q ∈ ps, S1 q = none := fun q hq => by
    cases e : S1 q with
    | none => rfl
    | some u =>
      obtain ⟨o, ho⟩ := it.there q hq
      have z := g.nw q u e (fr0 q hq).2
      rw [ho] at z; cases z
  have nrs : ∀ q ∈ ps, q ∉ fs := fun q hq hr => by
    obtain ⟨o, ho⟩ := it.there q hq
    have z := (fr.2 q hr).1
    rw [ho] at z; cases z
  have ain : a ∈ ps := hin a (by simp)
  refine ⟨v0, a, qs, h1, hv, hv2, rd, a1, fun q hq => nrs q (hin q (by simp [hq])), nrs a ain, a2, fun u d'' xd xv ws ys hwy nwy rr ry => ?_⟩
  have hws : ∀ w ∈ ws, w ∈ qs ∨ w ∈ fs := fun w hw => hwy w (List.mem_append_left _ hw)
  obtain ⟨nws, nys, nwd⟩ := List.nodup_append.mp nwy
  have hpre : ∀ x, x ∈ pre ∨ x ∈ post → x ≠ a := fun x hx z => by
    subst z
    exact hx.elim (m2 x (by simp)).1 (m2 x (by simp)).2
  have rp := up S1 (upd H1 a u) d'' (a :: ws) (Same.refl _) (fun x hx o ho => by rw [upd_ne (hpre x hx)]; exact ho) rr
  have ha' : a ∉ ps' := fun z => n3 a z (by simp)
  have it1 : Its K S1 (upd H1 a u) σ (ρ.set i none) ps' := (h3.mono g.ss g.hh).set ha'
  have hi : i < ρ.length := (List.getElem?_eq_some_iff.mp e).1
  obtain ⟨ps3, b1, b2, b3⟩ := it1.put rp i (by simpa using hi)
  have e1 : put (ρ.set i none) i (setP p d'' d) = put ρ i (setP p d'' d) := by simp [put]
  have e2 : σ.set i (some v0) = σ := by
    obtain ⟨hlt, hv⟩ := List.getElem?_eq_some_iff.mp h1
    rw [← hv]; exact List.set_getElem_self hlt
  rw [e1, e2] at b1
  have hmem : ∀ x, x ∈ pre ++ (a :: ws ++ post) → x ∈ ps ∨ x ∈ fs := fun x hx => by
    simp only [List.mem_append, List.mem_cons] at hx
    rcases hx with z | (z | z) | z
    · exact .inl (hin x (by simp [z]))
    · subst z; exact .inl ain
    · exact (hws x z).elim (fun y => .inl (hin x (by simp [y]))) .inr
    · exact .inl (hin x (by simp [z]))
  have hys : ∀ x ∈ ys, x ∈ ps ∨ x ∈ fs := fun x hx => (hwy x (List.mem_append_right _ hx)).elim (fun y => .inl (hin x (by simp [y]))) .inr
  have hys2 : ∀ x ∈ ys, x ∉ ps3 := fun x hx z => by
    have hxa := hwy x (List.mem_append_right _ hx)
    rcases b2 x z with w | w
    · rcases hxa with y | y
      · exact n3 x w (by simp [y])
      · exact nrs x ((h4 x).mpr (.inl w)) y
    · simp only [List.mem_append, List.mem_cons] at w
      rcases w with k | (k | k) | k
      · rcases hxa with y | y
        · exact (m2 x (by simp [y])).1 k
        · exact nrs x (hin x (by simp [k])) y
      · subst k
        rcases hxa with y | y
        · exact a1 y
        · exact nrs x ain y
      · exact nwd x k x hx rfl
      · rcases hxa with y | y
        · exact (m2 x (by simp [y])).2 k
        · exact nrs x (hin x (by simp [k])) y
  refine ⟨pn_app R.pn, ⟨same_set R1.gr.hh (fr0 a ain).1, R1.gr.ss, same_set R1.gr.sh (fr1 a ain), R1.gr.nw⟩, ps3 ++ ys, b1.more ry, List.nodup_append.mpr ⟨?_, nys, fun x hx y hy z => hys2 y hy (z ▸ hx)⟩, fun x hx => ?_⟩
  · refine b3 n1 ?_ fun x hx hq => ?_
    · obtain ⟨k1, k2, k3⟩ := List.nodup_append.mp m3
      have wsp : ∀ x ∈ a :: ws, x ∉ pre ∧ x ∉ post := fun x hx => by
        rcases List.mem_cons.mp hx with rfl | hx
        · exact m2 x (by simp)
        · rcases hws x hx with y | y
          · exact m2 x (by simp [y])
          · exact ⟨fun z => nrs x (hin x (by simp [z])) y, fun z => nrs x (hin x (by simp [z])) y⟩
      have haws : a ∉ ws := fun z => by
        rcases hws a z with y | y
        · exact a1 y
        · exact nrs a ain y
      refine List.nodup_append.mpr ⟨k1, List.nodup_append.mpr ⟨List.nodup_cons.mpr ⟨haws, nws⟩, k2, fun x hx y hy z => (wsp x hx).2 (z ▸ hy)⟩, fun x hx y hy z => ?_⟩
      subst z
      rcases List.mem_append.mp hy with w | w
      · exact (wsp x w).1 hx
      · exact k3 x hx x w rfl
    · rcases hmem x hq with y | y
      · simp only [List.mem_append, List.mem_cons] at hq
        rcases hq with z | (z | z) | z
        · exact n3 x hx (by simp [z])
        · exact n3 x hx (by simp [z])
        · rcases hws x z with w | w
          · exact n3 x hx (by simp [w])
          · exact nrs x y w
        · exact n3 x hx (by simp [z])
      · exact nrs x ((h4 x).mpr (.inl hx)) y
  · rcases List.mem_append.mp hx with hx | hx
    · rcases b2 x hx with z | z
      · have hp' := (h4 x).mpr (.inl z)
        exact ⟨(fr0 x hp').1, fr1 x hp'⟩
      · rcases hmem x z with y | y
        · exact ⟨(fr0 x y).1, fr1 x y⟩
        · exact ⟨none_back R.gr.hh (fr.2 x y).1, (fr.2 x y).2⟩
    · rcases hys x hx with y | y
      · exact ⟨(fr0 x y).1, fr1 x y⟩
      · exact ⟨none_back R.gr.hh (fr.2 x y).1, (fr.2 x y).2⟩
theorem rl_place {K : PySem.W.Frag} {P : Pins} {S0 H0 S H : Hp} {σ : L2.St} {ρ : Env} {i : Nat} {d d' : D} {p : List Nat} (R : Rl K P S0 H0 S H σ ρ) (e : ρ[i]? = some (some d)) (hp : atP p d = some d') (ho : d'.isO = true) {S1 H1 : Hp} (g : Grow S H S1 H1) {fs : List Addr} (fr : Fresh H S1 fs) :
    ∃ v0 a qs, σ[i]? = some (some v0) ∧ VAt H1 v0 p (.ref a) ∧ VAt H v0 p (.ref a) ∧ Rp K S1 H1 (.ref a) d' (a :: qs) ∧ a ∉ qs ∧ (∀ q ∈ qs, q ∉ fs) ∧ a ∉ fs ∧ qs.Nodup ∧
      ∀ (u : HO) (d'' : D) (ws : List Addr), (∀ w ∈ ws, w ∈ qs ∨ w ∈ fs) → ws.Nodup → Rp K S1 (upd H1 a u) (.ref a) d'' (a :: ws) → Rl K P S0 H0 S1 (upd H1 a u) σ (put ρ i (setP p d'' d)) := by
  obtain ⟨v0, a, qs, h1, h2, h3, h4, h5, h6, h7, h8, up⟩ := rl_place2 R e hp ho g fr
  refine ⟨v0, a, qs, h1, h2, h3, h4, h5, h6, h7, h8, fun u d'' ws hw hn rr => ?_⟩
  obtain ⟨_, _, _, _, _, _, R1⟩ := (up u d'' .non .non ws [] (by simpa using hw) (by simpa using hn) rr .non).drop R.pn
  exact R1
end G
set_option maxHeartbeats 1000000
namespace G
open PySem PySem.Spec L2
section
variable {cl : Cl} {P : Pins} {X : Cx} {W : WX} {e a b c o : Expr} {f g : E} {pos apos cpos : Pos} {i : Nat} {pl : Pl}
theorem do_ix (hs : PlainIx b) (ha : DO cl X W a f) (hb : DO cl X W b g) : DO cl X W (.Subscript a b pos) (e2 fIxO f g) := by
  obtain ⟨ta, pa, qa⟩ := ha.pf
  obtain ⟨tb, pb, qb⟩ := hb.pf
  refine ⟨_, pe_ix ix_seq pa pb hs, fun σ ρ S H Q l s z => ?_⟩
  have z' : PostO cl X.K W σ S H ((f ρ).bind fun x => (g ρ).bind fun y => Res.of (fIxO x y)) Q := z
  have nxt : ∀ {r : Res D} {k : D → Res D} {S H : Hp}, PostO cl X.K W σ S H (r.bind k) Q → PostO cl X.K W σ S H r (fun v H1 => ∃ d S1 qs, r = .ok d ∧ Grow S H S1 H1 ∧ Rp X.K S1 H1 v d qs ∧ PostO cl X.K W σ S1 H1 (k d) Q) := by
    intro r k S H h
    cases r with
    | no => exact h
    | ok d =>
      intro v S' H' qs g' rp
      refine ⟨d, S', qs, rfl, g', rp, ?_⟩
      have h : PostO cl X.K W σ S H (k d) Q := h
      cases kd : k d with
      | no => rw [kd] at h; exact h
      | ok d2 => rw [kd] at h; exact fun v S2 H2 q2 g2 r2 => h v S2 H2 q2 (g'.trans g2) r2
      | ex c fs => rw [kd] at h; exact fun S2 H2 cls dd g2 x => h S2 H2 cls dd (g'.trans g2) x
    | ex c fs => exact h
  refine qa σ ρ S H _ l s ((nxt z').imp ?_)
  rintro x H1 ⟨dx, S1, ps, e, g1, rx, z1⟩
  refine qb σ ρ S1 H1 _ (l.mono g1) g1.sh ((nxt z1).imp ?_)
  rintro y H2 ⟨dy, S2, qs, e2, g2, ry, z2⟩
  have rx := rx.mono g2.ss g2.hh
  have s := g2.sh
  cases k : fIxO dx dy with
  | none => rw [k] at z2; exact z2.elim
  | some d =>
    rw [k] at z2
    have z2 : ∀ v S' H' qs, Grow S2 H2 S' H' → Rp X.K S' H' v d qs → Q v H' := z2
    unfold fIxO at k
    split at k
    · cases ry
      obtain ⟨l1, v1, q1, rfl, h1, r1⟩ := rx.lst s
      obtain ⟨j, hj, k⟩ := Option.bind_eq_some_iff.mp k
      obtain ⟨v, rs, hv, rv, _⟩ := r1.get k
      refine .inl ⟨l1, v1, _, v, rfl, rfl, .inl (.inl h1), ?_, z2 v S2 H2 rs (Grow.refl s) rv⟩
      unfold atI
      rw [r1.length, ← ixD_eq, hj]
      exact hv
    · cases ry
      obtain ⟨l1, v1, q1, rfl, h1, r1⟩ := rx.tup s
      obtain ⟨j, hj, k⟩ := Option.bind_eq_some_iff.mp k
      obtain ⟨v, rs, hv, rv, _⟩ := r1.get k
      refine .inr (.inl ⟨l1, v1, _, v, rfl, rfl, h1, ?_, z2 v S2 H2 rs (Grow.refl s) rv⟩)
      unfold atI
      rw [r1.length, ← ixD_eq, hj]
      exact hv
    · refine o_ix S2 H2 x y _ _ d ps qs Q s rx ry (by unfold fIx; exact k) fun v S' H' rs gg _ rr => z2 v S' H' rs gg rr
    · refine o_ix S2 H2 x y _ _ d ps qs Q s rx ry (by unfold fIx; exact k) fun v S' H' rs gg _ rr => z2 v S' H' rs gg rr
    · cases k
def PostP (cl : Cl) (W : WX) (σ : L2.St) (S H : Hp) (i : Nat) (r : Res (List Nat)) (Q : VK) : Prop := match r with
  | .no => False
  | .ok p => ∀ v v0 S' H', Grow S H S' H' → σ[i]? = some (some v0) → VAt H' v0 p v → Q v H'
  | .ex c fs => ∀ S' H' cls dd, Grow S H S' H' → XR cl S' c fs cls dd → W cls dd σ H'
structure DPl (cl : Cl) (X : Cx) (W : WX) (e : Expr) (i : Nat) (o : Pl) : Prop where
  pf : ∃ t : TE, PE X e t ∧ ∀ (σ : L2.St) (ρ : Env) (S H : Hp) (Q : VK), Look X.K S H σ ρ → Same S H → PostP cl W σ S H i (o ρ) Q → t σ H Q
theorem PostP.bind {α : Type} {σ : L2.St} {S H : Hp} {r : Res (List Nat)} {Q Q' : VK} (h : match r with
    | .no => False
    | .ok p => ∀ v v0 S' H', Grow S H S' H' → σ[i]? = some (some v0) → VAt H' v0 p v → Q v H'
    | .ex c fs => ∀ S' H' cls dd, Grow S H S' H' → XR cl S' c fs cls dd → W cls dd σ H') : PostP cl W σ S H i r Q := h
theorem dp_v (p : PE X e (tVar i)) : DPl cl X W e i (pHere i) := ⟨tVar i, p, fun σ ρ S H Q l s z => by
  unfold pHere at z
  rcases get_cases ρ i with e | ⟨d, e⟩
  · rw [e] at z; exact z.elim
  · rw [e] at z
    obtain ⟨v, qs, h1, h2⟩ := look_get l e
    exact ⟨v, h1, z v v S H (Grow.refl s) h1 rfl⟩⟩
theorem partAt_ok {ρ : Env} {p : List Nat} {d' : D} (h : partAt ρ i p = .ok d') : ∃ d, ρ[i]? = some (some d) ∧ atP p d = some d' := by
  unfold partAt at h
  rcases get_cases ρ i with e | ⟨d, e⟩
  · rw [e] at h; cases h
  · rw [e] at h
    have h : Res.of (atP p d) = .ok d' := h
    cases k : atP p d with
    | none => rw [k] at h; cases h
    | some x => rw [k] at h; cases h; exact ⟨d, get_some e, k⟩
theorem partAt_ex {ρ : Env} {p : List Nat} {c : String} {fs : List D} : partAt ρ i p ≠ .ex c fs := by
  unfold partAt
  rcases get_cases ρ i with e | ⟨d, e⟩
  · rw [e]; intro z; cases z
  · rw [e]
    show Res.of (atP p d) ≠ _
    cases atP p d <;> intro z <;> cases z
theorem dp_ix (hs : PlainIx b) (ha : DPl cl X W a i pl) (hb : DO cl X W b g) : DPl cl X W (.Subscript a b pos) i (pIx i pl g) := by
  obtain ⟨ta, pa, qa⟩ := ha.pf
  obtain ⟨tb, pb, qb⟩ := hb.pf
  refine ⟨_, pe_ix ix_seq pa pb hs, fun σ ρ S H Q l s z => qa σ ρ S H _ l s ?_⟩
  unfold pIx at z
  cases k1 : pl ρ with
  | no => rw [k1] at z; exact z
  | ex c fs => rw [k1] at z; exact z
  | ok p =>
    rw [k1] at z
    intro x v0 S1 H1 g1 hv0 hx
    refine qb σ ρ S1 H1 _ (l.mono g1) g1.sh ?_
    have z : PostP cl W σ S H i ((g ρ).bind fun k => (partAt ρ i p).bind fun d => match d, k with
      | .lst true xs, .int k => (Res.of (ixD xs.length k)).bind fun j => .ok (p ++ [j])
      | .tup true xs, .int k => (Res.of (ixD xs.length k)).bind fun j => .ok (p ++ [j])
      | _, _ => .no) Q := z
    cases k2 : g ρ with
    | no => rw [k2] at z; exact z
    | ex c fs => rw [k2] at z; exact fun S' H' cls dd g' x => z S' H' cls dd (g1.trans g') x
    | ok kd =>
      rw [k2] at z
      intro y S2 H2 qs g2 ry
      cases k3 : partAt ρ i p with
      | no => simp only [Res.bind, k3] at z; exact z.elim
      | ex c fs => exact absurd k3 partAt_ex
      | ok d' =>
        simp only [Res.bind, k3] at z
        obtain ⟨d, hd, hp⟩ := partAt_ok k3
        obtain ⟨w0, ps, hw0, rw0⟩ := l.2 i d hd
        rw [hv0] at hw0; cases hw0
        obtain ⟨v, pre, mid, post, _, hv, rv, _⟩ := (rw0.mono (g1.trans g2).ss (g1.trans g2).hh).focus p hp
        have := (hx.mono g2.hh).det hv
        subst this
        split at z
        · rename_i xs kk
          cases ry
          obtain ⟨l1, v1, q1, rfl, h1, r1⟩ := rv.lst g2.sh
          cases k4 : ixD xs.length kk with
          | none => rw [k4] at z; exact z.elim
          | some j =>
            rw [k4] at z
            have hjl : j < v1.length := by
              rw [r1.length]
              unfold ixD at k4
              split at k4
              · split at k4 <;> cases k4; omega
              · split at k4 <;> cases k4; omega
            refine .inl ⟨l1, v1, _, v1[j], rfl, rfl, .inl (.inl h1), ?_, z v1[j] v0 S2 H2 (g1.trans g2) hv0 (hv.app (.inl h1) (List.getElem?_eq_getElem hjl))⟩
            unfold atI
            rw [r1.length, ← ixD_eq, k4]
            exact List.getElem?_eq_getElem hjl
        · rename_i xs kk
          cases ry
          cases rv with
          | @tupO l1 v1 _ qs1 h1 r1 =>
          cases k4 : ixD xs.length kk with
          | none => rw [k4] at z; exact z.elim
          | some j =>
            rw [k4] at z
            have hjl : j < v1.length := by
              rw [r1.length]
              unfold ixD at k4
              split at k4
              · split at k4 <;> cases k4; omega
              · split at k4 <;> cases k4; omega
            refine .inr (.inl ⟨l1, v1, _, v1[j], rfl, rfl, .inl (.inl h1), ?_, z v1[j] v0 S2 H2 (g1.trans g2) hv0 (hv.app (.inr (.inl h1)) (List.getElem?_eq_getElem hjl))⟩)
            unfold atI
            rw [r1.length, ← ixD_eq, k4]
            exact List.getElem?_eq_getElem hjl
        · exact z.elim
end
end G
set_option maxHeartbeats 1000000
namespace G
open PySem PySem.Spec L2
section
variable {cl : Cl} {P : Pins} {X : Cx} {W : WX} {e a b c o k : Expr} {f g : E} {pos apos cpos : Pos} {i : Nat} {pl : Pl}
theorem RpAll.setV {K : PySem.W.Frag} {S H : Hp} {v : V} {d : D} {qs : List Addr} (rv : Rp K S H v d qs) : ∀ {vs : List V} {ds : List D} {ps : List Addr} {j : Nat} {dj : D}, RpAll K S H vs ds ps → ds[j]? = some dj → ∃ pre mid post, ps = pre ++ (mid ++ post) ∧ RpAll K S H (vs.set j v) (ds.set j d) (pre ++ (qs ++ post))
  | _, _, _, _, _, .nil, h => by simp at h
  | _, _, _, 0, _, .cons (ps := ps0) (qs := qs0) r t, h => ⟨[], ps0, qs0, rfl, by simpa using RpAll.cons rv t⟩
  | _, _, _, j + 1, _, .cons (ps := ps0) r t, h => by
    obtain ⟨pre, mid, post, e1, e2⟩ := RpAll.setV rv (j := j) t (by simpa using h)
    exact ⟨ps0 ++ pre, mid, post, by rw [e1, List.append_assoc], by simpa [List.append_assoc] using RpAll.cons r e2⟩
theorem upAt_some {ρ : Env} {i : Nat} {d : D} (h : ρ[i]? = some (some d)) (p : List Nat) (e : D) : upAt ρ i p e = .nx (put ρ i (setP p e d)) := by
  unfold upAt get
  rw [h]
theorem ds_appP (i : Nat) (ho : DPl cl X W o i pl) (he : DE cl X W e f)
    (hbase : attributeBase o "append" X.env (eval o X.env) = eval o X.env := by rfl)
    (hfew : ((backTo cpos (starEach [e] X.env)).all (fun x => !x.1) && (backToKw cpos (keywordEach [] X.env)).all (fun x => x.1.isSome)
      && decide (([e] : List Expr).length + ([] : List Keyword).length + (if ([] : List Keyword).isEmpty then 0 else 1) < 30)) = true := by rfl)
    (hline : (apos.endLine == cpos.line) = true := by rfl) (hs : starEach [e] X.env = [(false, eval e X.env)] := by rfl)
    (hsw : swapsWith (.Call (.Attribute o "append" apos) [e] [] cpos) none pos.line X.env = pure false := by rfl) :
    DS cl P X W (.Expr (.Call (.Attribute o "append" apos) [e] [] cpos) pos) (sAppP i pl f) := by
  obtain ⟨to, po, qo⟩ := ho.pf
  obtain ⟨t, pt, q⟩ := he.pf
  refine ⟨_, ps_expr (pe_bm PySem.F.plainAttrs_list PySem.F.slot_list_append PySem.F.type_list_append mt_append po (pa_cons pt pa_nil hs) hbase hfew hline hs) hsw, fun S0 H0 S H σ ρ Dn R z => ?_⟩
  unfold sAppP at z
  refine qo σ ρ S H _ R.look R.gr.sh ?_
  cases k1 : pl ρ with
  | no => rw [k1] at z; exact z
  | ex c fs => rw [k1] at z; exact fun S' H' cls dd g x => z S' H' σ cls dd (R.grow g) x
  | ok p =>
    rw [k1] at z
    intro v v0 S1 H1 g1 hv0 hva
    replace z : PostS cl X.K P W S0 H0 (sE (partAt ρ i p) ρ fun l => match l with
      | .lst true xs => sE (f ρ) ρ fun d => if xs.length < LINE then upAt ρ i p (.lst true (xs ++ [d])) else .no
      | _ => .no) Dn := z
    cases k2 : partAt ρ i p with
    | no => rw [k2] at z; exact z.elim
    | ex c fs => exact absurd k2 partAt_ex
    | ok d' =>
      rw [k2] at z
      obtain ⟨d0, hd0, hp⟩ := partAt_ok k2
      have R1 := R.grow g1
      cases d' with
      | lst ow xs =>
        cases ow with
        | false => exact z.elim
        | true =>
          replace z : PostS cl X.K P W S0 H0 (sE (f ρ) ρ fun d => if xs.length < LINE then upAt ρ i p (.lst true (xs ++ [d])) else .no) Dn := z
          obtain ⟨w0, a, qs0, h1, h2, h3, h4, _⟩ := rl_place R1 hd0 hp rfl (Grow.refl g1.sh) Fresh.nil
          rw [hv0] at h1; cases h1
          have := hva.det h2; subst this
          obtain ⟨l, vs0, _, e0, hl0, _⟩ := h4.lst g1.sh
          cases e0
          refine ⟨.inl ⟨rfl, vs0, .inl (.inl hl0)⟩, ?_⟩
          refine q σ ρ S1 H1 _ R1.look R1.gr.sh (stmt_e R1 z ?_)
          intro d v S' H' qs hr g fr rp R' z1
          by_cases hlen : xs.length < LINE
          · simp only [hlen, if_true] at z1
            rw [upAt_some hd0] at z1
            obtain ⟨w0, a', qs1, h1, h2', h3', h4, h5, h6, h7, h8, up⟩ := rl_place R1 hd0 hp rfl g fr
            rw [hv0] at h1; cases h1
            have := h2.det h3'; cases this
            cases h4 with
            | @lstO _ vs _ _ hl ra =>
            refine ⟨a, vs, v, rfl, rfl, hl, by rw [ra.length, line_eq]; exact hlen, z1 S' _ σ (up (.lst (vs ++ [v])) (.lst true (xs ++ [d])) (qs1 ++ qs) (fun w hw => List.mem_append.mp hw) (List.nodup_append.mpr ⟨h8, fr.1, fun x hx y hy zz => h6 x hx (zz ▸ hy)⟩) (.lstO upd_same ?_))⟩
            have ra2 : RpAll X.K S' H' (vs ++ [v]) (xs ++ [d]) (qs1 ++ qs) := ra.append (by simpa using RpAll.cons rp RpAll.nil)
            exact ra2.set (fun zz => (List.mem_append.mp zz).elim h5 h7)
          · simp only [hlen, if_false] at z1; exact z1.elim
      | _ => exact z.elim
theorem ds_setIx {g : E} (i : Nat) (ho : DPl cl X W o i pl) (hk : DO cl X W k g) (he : DE cl X W e f)
    (hs : swapsWithSole [.Subscript o k apos] e pos.line X.env = pure false := by rfl) (hw : swappedStores [.Subscript o k apos] e X.env = pure none := by rfl)
    (h1 : (assignEach [.Subscript o k apos] X.env).map (·.2) = [assign (.Subscript o k apos) X.env] := by rfl)
    (ha : ∀ v, assign (.Subscript o k apos) X.env v = (do
      let ov ← holding [v] (eval o X.env)
      let iv ← holding [v, ov] (eval k X.env)
      standAt apos
      holding [v, ov, iv] (setItem ov iv v)
      release [v, ov, iv] []) := by intro _; rfl) :
    DS cl P X W (.Assign [.Subscript o k apos] e pos) (sSetIx i pl g f) := by
  obtain ⟨to, po, qo⟩ := ho.pf
  obtain ⟨tk, pk, qk⟩ := hk.pf
  obtain ⟨t, pt, q⟩ := he.pf
  refine ⟨_, ps_asg pt (pg_sub po pk set_list ha) hs hw h1, fun S0 H0 S H σ ρ Dn R z => ?_⟩
  unfold sSetIx at z
  refine q σ ρ S H _ R.look R.gr.sh (stmt_e R z ?_)
  intro d v S1 H1 qs hr g1 fr rp R1 z1
  refine qo σ ρ S1 H1 _ R1.look R1.gr.sh ?_
  cases k1 : pl ρ with
  | no => rw [k1] at z1; exact z1
  | ex c fs => rw [k1] at z1; exact fun S' H' cls dd g x => z1 S' H' σ cls dd (R1.grow g) x
  | ok p =>
    rw [k1] at z1
    intro vo v0 S2 H2 g2 hv0 hva
    have R2 := R1.grow g2
    replace z1 : PostS cl X.K P W S0 H0 (sE (g ρ) ρ fun kd => sE (partAt ρ i p) ρ fun l => setIxK ρ i p d l kd) Dn := z1
    refine qk σ ρ S2 H2 _ R2.look R2.gr.sh ?_
    cases k2 : g ρ with
    | no => rw [k2] at z1; exact z1.elim
    | ex c fs => rw [k2] at z1; exact fun S' H' cls dd g x => z1 S' H' σ cls dd (R2.grow g) x
    | ok kd =>
      rw [k2] at z1
      intro vk S3 H3 ps3 g3 rk
      replace z1 : PostS cl X.K P W S0 H0 (sE (partAt ρ i p) ρ fun l => setIxK ρ i p d l kd) Dn := z1
      cases k3 : partAt ρ i p with
      | no => rw [k3] at z1; exact z1.elim
      | ex c fs => exact absurd k3 partAt_ex
      | ok d' =>
        rw [k3] at z1
        obtain ⟨d0, hd0, hp⟩ := partAt_ok k3
        replace z1 : PostS cl X.K P W S0 H0 (setIxK ρ i p d d' kd) Dn := z1
        unfold setIxK at z1
        split at z1
        · rename_i xs kk
          cases rk
          cases k4 : ixD xs.length kk with
          | none => rw [k4] at z1; exact z1.elim
          | some j =>
            rw [k4] at z1
            replace z1 : PostS cl X.K P W S0 H0 (upAt ρ i p (.lst true (xs.set j d))) Dn := z1
            rw [upAt_some hd0] at z1
            have gt := g1.trans (g2.trans g3)
            have fr3 : Fresh H S3 qs := fr.on (g2.trans g3) (fun q hq => rp.there q hq)
            obtain ⟨w0, a, qs1, h1, h2, h3, h4, h5, h6, h7, h8, up⟩ := rl_place R hd0 hp rfl gt fr3
            rw [hv0] at h1; cases h1
            have := (hva.mono g3.hh).det h2; subst this
            cases h4 with
            | @lstO _ vs _ _ hl ra =>
            have hjl : j < xs.length := by
              unfold ixD at k4
              split at k4
              · split at k4 <;> cases k4; omega
              · split at k4 <;> cases k4; omega
            obtain ⟨pre, mid, post, e0, ra2⟩ := RpAll.setV (rp.mono (g2.trans g3).ss (g2.trans g3).hh) ra (List.getElem?_eq_getElem hjl)
            subst e0
            refine ⟨a, vs, kk, j, rfl, rfl, hl, by rw [ra.length, ← ixD_eq]; exact k4, z1 S3 _ σ (up _ (.lst true (xs.set j d)) (pre ++ (qs ++ post)) (fun w hw => ?_) ?_ (.lstO upd_same (ra2.set ?_)))⟩
            · simp only [List.mem_append] at hw ⊢
              rcases hw with z | z | z
              · exact .inl (.inl z)
              · exact .inr z
              · exact .inl (.inr (.inr z))
            · obtain ⟨n1, n2, n3⟩ := nodup_mid h8
              obtain ⟨k1, k2, k3⟩ := List.nodup_append.mp n3
              refine List.nodup_append.mpr ⟨k1, List.nodup_append.mpr ⟨fr3.1, k2, fun x hx y hy z => h6 y (by simp [hy]) (z ▸ hx)⟩, fun x hx y hy z => ?_⟩
              subst z
              rcases List.mem_append.mp hy with w | w
              · exact h6 x (by simp [hx]) w
              · exact k3 x hx x w rfl
            · intro z
              simp only [List.mem_append] at z
              rcases z with z | z | z
              · exact h5 (by simp [z])
              · exact h7 z
              · exact h5 (by simp [z])
        · exact z1.elim
end
end G
set_option maxHeartbeats 1000000
namespace G
open PySem PySem.Spec L2
def PostM (cl : Cl) (K : PySem.W.Frag) (P : Pins) (W : WX) (σ : L2.St) (S0 H0 : Hp) (r : ResM) (Q : VK) : Prop := match r with
  | .no => False
  | .ok d ρ => ∀ v S H, Rl K P S0 H0 S H (σ ++ [some v]) (ρ ++ [some d]) → Q v H
  | .ex c fs ρ => ∀ S H cls dd, Rl K P S0 H0 S H σ ρ → XR cl S c fs cls dd → W cls dd σ H
structure DM (cl : Cl) (P : Pins) (X : Cx) (W : WX) (e : Expr) (m : M) : Prop where
  pf : ∃ t : TE, PE X e t ∧ ∀ (S0 H0 S H : Hp) (σ : L2.St) (ρ : Env) (Q : VK), Rl X.K P S0 H0 S H σ ρ → PostM cl X.K P W σ S0 H0 (m ρ) Q → t σ H Q
section
variable {cl : Cl} {P : Pins} {X : Cx} {W : WX} {e a b c o k : Expr} {f g : E} {m : M} {pos apos cpos : Pos} {i : Nat} {pl : Pl}
theorem ds_dropM (he : DM cl P X W e m) (hs : swapsWith e none pos.line X.env = pure false := by rfl) : DS cl P X W (.Expr e pos) (sDropM m) := by
  obtain ⟨t, pt, q⟩ := he.pf
  refine ⟨_, ps_expr pt hs, fun S0 H0 S H σ ρ Dn R z => q S0 H0 S H σ ρ _ R ?_⟩
  unfold sDropM at z
  cases k : m ρ with
  | no => rw [k] at z; exact z
  | ex c fs ρ1 => rw [k] at z; exact fun S' H' cls dd R' x => z S' H' σ cls dd R' x
  | ok d ρ1 =>
    rw [k] at z
    intro v S' H' R'
    obtain ⟨_, _, _, _, _, _, R1⟩ := R'.drop R.pn
    exact z S' H' σ R1
theorem RpAll.last {K : PySem.W.Frag} {S H : Hp} : ∀ {vs : List V} {ds : List D} {ps : List Addr} {d : D}, RpAll K S H vs ds ps → ds.getLast? = some d → ∃ v pre post, ps = pre ++ post ∧ vs[vs.length - 1]? = some v ∧ RpAll K S H vs.dropLast ds.dropLast pre ∧ Rp K S H v d post
  | _, _, _, _, .nil, h => by simp at h
  | _, _, _, _, .cons (ps := ps0) r .nil, h => by
    simp at h; subst h
    exact ⟨_, [], ps0, by simp, rfl, .nil, r⟩
  | _, _, _, d, .cons (ps := ps0) r (.cons (v := v1) (d := d1) (vs := vs1) (ds := ds1) r2 t), h => by
    obtain ⟨v, pre, post, h1, h2, h3, h4⟩ := RpAll.last (d := d) (.cons r2 t) (by simpa using h)
    refine ⟨v, ps0 ++ pre, post, by rw [h1, List.append_assoc], ?_, ?_, h4⟩
    · simp only [List.length_cons, Nat.add_sub_cancel] at h2 ⊢
      rw [List.getElem?_cons_succ]; exact h2
    · have := RpAll.cons r h3
      simpa using this
end
end G
set_option maxHeartbeats 1000000
namespace G
open PySem PySem.Spec PyProof.Rows L2
section
variable {X : Cx} {e : Expr} {es : List Expr} {ta : TA} {p1 p2 pos : Pos}
end
section
variable {cl : Cl} {P : Pins} {X : Cx} {W : WX} {a b : Expr} {f g : E} {p pos ppos : Pos}
end
end G
set_option maxHeartbeats 1000000
namespace G
open PySem PySem.Spec PyProof.Rows L2
def bmVE : List Value := [.type "ValueError", .type "Exception", .type "BaseException", .type "object"]
def xK (K : PySem.W.Frag) (c : String) : Bool := PySem.W.excIn K (clK K c) bmVE "ValueError.__new__" && (PySem.W.keepIn K (.ref (clK K c)) && ((PySem.W.subIn K (.ref (clK K c)) (.type "BaseException") == some true) && (PySem.W.typeIn K (.ref (clK K c)) == some (.type "type"))))
structure WK (K : PySem.W.Frag) (fI : Addr) (c : String) : Prop where
  T : OexC K (clK K c)
  n1 : PySem.W.findIn K (.ref (clK K c)) "line" = some none
  n2 : PySem.W.findIn K (.ref (clK K c)) "place" = some none
  iC : PySem.W.findIn K (.ref (clK K c)) "__init__" = some (some (.ref fI))
structure XK1 (K : PySem.W.Frag) (c : String) : Prop where
  q : PySem.W.excIn K (clK K c) bmVE "ValueError.__new__" = true
  k : PySem.W.keepIn K (.ref (clK K c)) = true
  s : PySem.W.subIn K (.ref (clK K c)) (.type "BaseException") = some true
  t : PySem.W.typeIn K (.ref (clK K c)) = some (.type "type")
theorem xK_ok {K : PySem.W.Frag} {c : String} (h : xK K c = true) : XK1 K c := by
  obtain ⟨h1, h⟩ := Bool.and_eq_true_iff.mp h
  obtain ⟨h2, h⟩ := Bool.and_eq_true_iff.mp h
  obtain ⟨h3, h4⟩ := Bool.and_eq_true_iff.mp h
  exact ⟨h1, h2, beq_iff_eq.mp h3, beq_iff_eq.mp h4⟩
def eK (K : PySem.W.Frag) (c : String) : Bool := (PySem.W.findIn K (.ref (clK K c)) "__getattribute__" == some (some (.builtin "BaseException.__getattribute__"))) && ((PySem.W.findIn K (.ref (clK K c)) "__getattr__" == some none) && ((PySem.W.subIn K (.ref (clK K c)) (.type "BaseException") == some true) && (PySem.W.hasDictIn K (clK K c) &&
  ((PySem.W.findIn K (.ref (clK K c)) "__class__" == some (some (.builtin "object.__class__"))) && ((PySem.W.specialIn K (.builtin "object.__class__") "__get__" == some (some (.builtin "getset_descriptor.__get__"))) && ((PySem.W.takesIn K (.builtin "object.__class__") == some true) && (PySem.W.mroIn K (clK K c) (.type "object") == some true)))))))
theorem eK_ok {K : PySem.W.Frag} {c : String} (h : eK K c = true) : ExcC K (clK K c) := by
  obtain ⟨h1, h⟩ := Bool.and_eq_true_iff.mp h
  obtain ⟨h2, h⟩ := Bool.and_eq_true_iff.mp h
  obtain ⟨h3, h⟩ := Bool.and_eq_true_iff.mp h
  obtain ⟨h4, h⟩ := Bool.and_eq_true_iff.mp h
  obtain ⟨h5, h⟩ := Bool.and_eq_true_iff.mp h
  obtain ⟨h6, h⟩ := Bool.and_eq_true_iff.mp h
  obtain ⟨h7, h8⟩ := Bool.and_eq_true_iff.mp h
  exact ⟨beq_iff_eq.mp h1, beq_iff_eq.mp h2, beq_iff_eq.mp h3, h4, beq_iff_eq.mp h5, beq_iff_eq.mp h6, beq_iff_eq.mp h7, beq_iff_eq.mp h8⟩
def clV (K : PySem.W.Frag) (t : String) : Value := if t = "ValueError" then .type "ValueError" else .ref (clK K t)
def kiB (K : PySem.W.Frag) (t : String) (cs : List (String × Bool)) : Bool := cs.all fun x => PySem.W.kitOne K (.ref (clK K x.1)) (clV K t) == some x.2
def emB (K : PySem.W.Frag) (t : String) (cs : List (String × Bool)) : Bool := cs.all fun x => PySem.W.exmOne K (.ref (clK K x.1)) (clV K t) == some x.2
theorem ki_ok {K : PySem.W.Frag} {t : String} {cs : List (String × Bool)} (h : kiB K t cs = true) (he : (cs.all fun x => eK K x.1) = true) : ∀ c b, supL cs c = some b → ExcC K (clK K c) ∧ PySem.W.kitOne K (.ref (clK K c)) (clV K t) = some b := by
  intro c b hl
  have hm : (c, b) ∈ cs := by
    clear h he
    unfold supL at hl
    induction cs with
    | nil => cases hl
    | cons x cs ih =>
      obtain ⟨x1, x2⟩ := x
      simp only [List.lookup] at hl
      split at hl
      · rename_i e
        have := beq_iff_eq.mp e
        subst this
        cases hl
        exact List.mem_cons_self ..
      · exact List.mem_cons_of_mem _ (ih hl)
  unfold kiB at h
  rw [List.all_eq_true] at h he
  have h2 : (PySem.W.kitOne K (.ref (clK K c)) (clV K t) == some b) = true := h (c, b) hm
  have h3 : eK K c = true := he (c, b) hm
  exact ⟨eK_ok h3, eq_of_beq h2⟩
theorem em_ok {K : PySem.W.Frag} {t : String} {cs : List (String × Bool)} (h : emB K t cs = true) : ∀ c b, supL cs c = some b → PySem.W.exmOne K (.ref (clK K c)) (clV K t) = some b := by
  intro c b hl
  have hm : (c, b) ∈ cs := by
    clear h
    unfold supL at hl
    induction cs with
    | nil => cases hl
    | cons x cs ih =>
      obtain ⟨x1, x2⟩ := x
      simp only [List.lookup] at hl
      split at hl
      · rename_i e
        have := beq_iff_eq.mp e
        subst this
        cases hl
        exact List.mem_cons_self ..
      · exact List.mem_cons_of_mem _ (ih hl)
  unfold emB at h
  rw [List.all_eq_true] at h
  have h2 : (PySem.W.exmOne K (.ref (clK K c)) (clV K t) == some b) = true := h (c, b) hm
  exact eq_of_beq h2
section
variable {cl : Cl} {P : Pins} {X : Cx} {W : WX} {e a b c : Expr} {f g : E} {p p2 pos ppos : Pos}
theorem ds_raiseK {x m : Str} {j : Nat} {c : String} (hc : X.calm = true) (tk : Takes X W) (h : xK X.K c = true) (gC : X.mg x = some (.ref (clK X.K c))) (hg : Gl X x) (hdb : (x == ("__debug__" : Str)) = false := by decide) (hcl : cl c = clK X.K c := by rfl) :
    DS cl P X W (.Raise (some (.Call (.Name x p) [.Constant (.str m) j p2] [] pos)) none ppos) (sRaise c) :=
  ds_raise hc tk PySem.F.excBase_ValueError (xK_ok h).q gC (xK_ok h).k (raises_own (xK_ok h).s (xK_ok h).t) hg hcl hdb
theorem de_isXK {x : Str} {t : String} {cs : List (String × Bool)} (h : kiB X.K t cs = true) (he : (cs.all fun x => eK X.K x.1) = true) (ht : (t == "ValueError") = false) (hgt : Gl X x) (hmt : X.mg x = some (.ref (clK X.K t))) (hg : Gl X "isinstance") (hm : X.mg "isinstance" = none) (ha : DO cl X W a f)
    (hdt : (x == ("__debug__" : Str)) = false := by decide) (hs : starEach [a, .Name x p2] X.env = (false, eval a X.env) :: starEach [.Name x p2] X.env := by rfl) (hs2 : starEach [.Name x p2] X.env = [(false, eval (.Name x p2) X.env)] := by rfl) (hpl : (backTo pos (starEach [.Name x p2] X.env)).any (·.1) = false := by rfl) :
    DE cl X W (.Call (.Name "isinstance" p) [a, .Name x p2] [] pos) (e1 (fIsX (supL cs)) f) := by
  have hcv : clV X.K t = .ref (clK X.K t) := by
    unfold clV; rw [if_neg (by simpa using ht)]
  have hk := ki_ok h he
  rw [hcv] at hk
  have hr : ∀ u, RelV (.ref (clK X.K t)) u → u = Value.ref (clK X.K t) := fun u r => r
  have ht : PE X (.Name x p2) (tC (.ref (clK X.K t))) := pe_glob hgt hmt rfl hdt
  exact de_isX (sup := supL cs) hr hk ht hg hm ha hs hs2 hpl
theorem de_isXV {cs : List (String × Bool)} (h : kiB X.K "ValueError" cs = true) (he : (cs.all fun x => eK X.K x.1) = true) (hgt : Gl X "ValueError") (hmt : X.mg "ValueError" = none) (hg : Gl X "isinstance") (hm : X.mg "isinstance" = none) (ha : DO cl X W a f)
    (hs : starEach [a, .Name "ValueError" p2] X.env = (false, eval a X.env) :: starEach [.Name "ValueError" p2] X.env := by rfl) (hs2 : starEach [.Name "ValueError" p2] X.env = [(false, eval (.Name "ValueError" p2) X.env)] := by rfl) (hpl : (backTo pos (starEach [.Name "ValueError" p2] X.env)).any (·.1) = false := by rfl) :
    DE cl X W (.Call (.Name "isinstance" p) [a, .Name "ValueError" p2] [] pos) (e1 (fIsX (supL cs)) f) := by
  have hcv : clV X.K "ValueError" = .type "ValueError" := rfl
  have hk := ki_ok h he
  rw [hcv] at hk
  have hr : ∀ u, RelV (.ty "ValueError") u → u = Value.type "ValueError" := fun u r => r
  have ht : PE X (.Name "ValueError" p2) (tC (.ty "ValueError")) := pe_bltn hgt hmt (by decide +kernel) rfl
  exact de_isX (sup := supL cs) hr hk ht hg hm ha hs hs2 hpl
end
section
variable {cl : Cl} {P : Pins} {X : Cx} {W : WX} {body : List Stmt} {F : Sd} {x n r : Str} {c : Value} {i j : Nat} {np np2 rp apos pos pos' : Pos} {sup : String → Option Bool}
theorem ds_tryK (hs : X.stack = X.env :: X.outer) (hf : X.env.frame = some X.env.locals) (hex : X.ex = []) (hN : X.N.Nodup) (hi : X.N[i]? = some n) (hln : X.env.kindOf n = some .local) (hj : X.N[j]? = some r) (hlr : X.env.scope.names.lookup r = some .local) (hij : i ≠ j)
    (hc : Names X x c) (tk : Takes X W) (hk : ∀ d b, sup d = some b → PySem.W.exmOne X.K (.ref (clK X.K d)) c = some b)
    (hb : ∀ (W : WX) (pn : List (Addr × Obj)) (xe : Value → Shared → Prop), Takes (X.tr pn xe) W → PassesOwn (model X.prog X.w) X.A X.env xe → DSs cl P (X.tr pn xe) W body F)
    (hvn : Vis X.env.scope n) (hdn : (n == ("__debug__" : Str)) = false := by decide) (hcn : (n == ("__classdict__" : Str)) = false := by decide)
    (hsw : swapsWith (.Name n np2) (some (.Name r rp)) apos.line X.env = pure false := by rfl) (hpi : P i = none := by rfl) (hpj : P j = none := by rfl) (hcl : cl = clK X.K := by rfl) :
    DS cl P X W (.Try body [.ExceptHandler (some (.Name x np)) (some n) [.Assign [.Name r rp] (.Name n np2) apos] pos'] [] [] pos) (sTryKeep F sup i j) := by
  subst hcl
  exact ds_try_keep hs hf hex hN hi hln hj hlr hij hc tk hk hb hvn hdn hcn hsw hpi hpj
end
end G
set_option maxHeartbeats 1000000
namespace G
open PySem PySem.Spec PyProof.Rows L2
section
variable {X : Cx}
theorem sp_ascii : ∀ c : Nat, c < 128 → Unicode.isSpace c = spC c := by decide +kernel
theorem words_eq : ∀ (l : Tx) (ws : List Tx) (u : Tx), (∀ c ∈ l, c < 128) → TL.wfin (l.foldl TL.wstep (ws, u)) = ws ++ wordsT u l
  | [], ws, u, _ => by
    show (if u = [] then ws else ws ++ [u]) = ws ++ (if u = [] then [] else [u])
    by_cases hu : u = []
    · rw [if_pos hu, if_pos hu, List.append_nil]
    · rw [if_neg hu, if_neg hu]
  | c :: r, ws, u, h => by
    have hc := sp_ascii c (h c (List.mem_cons_self ..))
    have hr : ∀ c ∈ r, c < 128 := fun c hc => h c (List.mem_cons_of_mem _ hc)
    simp only [List.foldl_cons, wordsT, TL.wstep, hc]
    cases spC c with
    | true =>
      simp only [if_true]
      by_cases hu : u = []
      · subst hu
        simp only [if_true]
        exact words_eq r ws [] hr
      · simp only [hu, if_false]
        rw [words_eq r _ _ hr]; simp
    | false =>
      simp only [Bool.false_eq_true, if_false]
      exact words_eq r ws _ hr
end
end G
set_option maxHeartbeats 1000000
namespace G
open PySem PySem.Spec PyProof.Rows L2
section
variable {cl : Cl} {X : Cx} {W : WX} {a : Expr} {f : E} {pos p : Pos}
end
end G
set_option maxHeartbeats 1000000
namespace G
open PySem PySem.Spec PyProof.Rows L2
section
variable {cl : Cl} {P : Pins} {X : Cx} {W : WX} {e o : Expr} {f : E} {pos bpos : Pos} {i : Nat}
end
end G
set_option maxHeartbeats 1000000
namespace G
open PySem PySem.Spec PyProof.Rows L2
section
variable {X : Cx}
theorem drop_take (p : Nat → Bool) : ∀ l : List Nat, l.dropWhile p = l.drop (l.takeWhile p).length
  | [] => rfl
  | a :: l => by
    rw [List.dropWhile_cons, List.takeWhile_cons]
    by_cases h : p a = true
    · rw [if_pos h, if_pos h, drop_take p l]; rfl
    · rw [if_neg h, if_neg h]; rfl
end
end G
set_option maxHeartbeats 1000000
namespace G
open PySem PySem.Spec PyProof.Rows L2
section
variable {cl : Cl} {X : Cx} {W : WX} {e f : Expr} {g : E} {pos apos dpos : Pos}
structure Cst (K : PySem.W.Frag) where
  k : Int
  v : V
  d : D
  r : ∀ S H, Rp K S H v d []
def cDD (T : List (Cst X.K)) : List (Int × D) := T.map fun t => (t.k, t.d)
end
end G
set_option maxHeartbeats 1000000
namespace G
open PySem PySem.Spec PyProof.Rows L2
section
variable {X : Cx}
end
section
variable {P : Pins} {X : Cx} {W : WX} {body suite : List Stmt} {b₀ : Stmt} {F T : Sd} {x : Str} {c : Value} {np pos pos' : Pos} {sup : String → Option Bool} {cl : Cl}
end
section
variable {cl : Cl} {X : Cx} {W : WX} {e : Expr} {es : List Expr} {p pos pos2 pos3 : Pos}
def OkF (cl : Cl) (X : Cx) (n : Nat) (fA : Addr) (den : List D → Res D) : Prop := ∃ (k : Nat) (fd : FuncData) (ps : List Str), FnOk X.prog X.w X.K X.mg X.base (L2.CX X.prog X.w) k fA fd ps (spD cl X.K n den) ∧ Room k X.A ∧ PySem.W.keepIn X.K (.ref fA) = true ∧ Binds X.K fd ps []
theorem call_post {n : Nat} {den : List D → Res D} {fs : List E} (hn : fs.length = n) {σ : L2.St} {ρ : Env} {S H : Hp} {Q : VK} (z : PostE cl X.K W σ S H (eCall den fs ρ) Q) :
    PostA cl X.K W σ S H (eArgs fs ρ) (fun vs H1 => spD cl X.K n den vs H1 Q (fun cls dd H2 => W cls dd σ H2)) := by
  have z0 := post_args z
  cases ka : eArgs fs ρ with
  | no => rw [ka] at z0; exact z0
  | ex c fs => rw [ka] at z0; exact z0
  | ok ds =>
    rw [ka] at z0
    intro vs S1 H1 qs g1 ra
    obtain ⟨ds', S1', qs', e, g1', ra', z1⟩ := z0 vs S1 H1 qs g1 ra
    cases e
    refine ⟨fun a => match S1' a with | some o => some o | none => if a ∈ qs' then H1 a else none, frzs ds, ?_, ?_, frzs_shs ds, by rw [frzs_len, eArgs_len ka, hn], ?_⟩
    · intro b o hb
      cases hS : S1' b with
      | some u => simp only [hS] at hb; cases hb; exact g1'.sh b _ hS
      | none =>
        simp only [hS] at hb
        by_cases hq : b ∈ qs'
        · simpa only [hq, if_true] using hb
        · simp only [hq, if_false] at hb; cases hb
    · refine ra'.frz (fun b o hb => by simp only [hb]) (fun b hb o ho => ?_) H1
      cases hS : S1' b with
      | some u =>
        have := g1'.sh b u hS
        rw [ho] at this; cases this
        rfl
      | none => simp only [hb, if_true]; exact ho
    · cases kd : den (frzs ds) with
      | no => simp only [kd, Res.bind] at z1; exact z1
      | ex c fs' =>
        simp only [kd, Res.bind] at z1
        intro S' H' cls dd g x
        have hdd : ∀ b, dd = some b → ∃ gs, S' b = some (.xd gs) := fun b hb => xr_dict x b hb
        have hnew : ∀ b, dd = some b → S1' b = none → H1 b = none := fun b hb h1 => by
          obtain ⟨gs, hg⟩ := hdd b hb
          by_cases hq : b ∈ qs'
          · exfalso
            obtain ⟨u, hu⟩ := ra'.there b hq
            have e1 : S' b = some u := g.ss b u (by simp only [h1, hq, if_true]; exact hu)
            rw [hg] at e1
            cases e1
            exact ra'.noxd b hq hu
          · exact g.nw b _ hg (by simp only [h1, hq, if_false])
        have hkeep : ∀ b o, dd = some b → S1' b = some o → S' b = some o := fun b o hb h1 => g.ss b o (by simp only [h1])
        refine z1 (fun b => if dd = some b then S' b else S1' b) H' cls dd ⟨g.hh, fun b o h => ?_, fun b o h => ?_, fun b o h1 h2 => ?_⟩ (xr_at x fun b hb => by simp only [hb, if_true])
        · by_cases hb : dd = some b
          · simp only [hb, if_true]; exact hkeep b o hb h
          · simp only [hb, if_false]; exact h
        · by_cases hb : dd = some b
          · simp only [hb, if_true] at h; exact g.sh b o h
          · simp only [hb, if_false] at h; exact (g1'.sh.trans g.hh) b o h
        · by_cases hb : dd = some b
          · exact hnew b hb h2
          · simp only [hb, if_false] at h1; rw [h1] at h2; cases h2
      | ok r =>
        simp only [kd, Res.bind] at z1
        cases ho : (r.ow || shs ds) with
        | false => simp only [ho] at z1; exact z1.elim
        | true =>
          simp only [ho, if_true] at z1
          intro v S' H' qs2 g f rp
          cases hw : r.ow with
          | true =>
            refine z1 v S1' H' qs2 ⟨g.hh, Same.refl _, g1'.sh.trans g.hh, fun a o h1 h2 => by rw [h1] at h2; cases h2⟩ ⟨f.1, fun q hq => ⟨(f.2 q hq).1, none_back g1'.sh (f.2 q hq).1⟩⟩ (rp.ow S1' hw)
          | false =>
            rw [hw, Bool.false_or] at ho
            have e0 := (ra'.sh ho).1
            subst e0
            have eS : (fun a => match S1' a with | some o => some o | none => if a ∈ ([] : List Addr) then H1 a else none) = S1' := by
              funext a
              cases S1' a <;> simp
            rw [eS] at g
            exact z1 v S' H' qs2 g f rp
structure FA (cl : Cl) (X : Cx) (n : Nat) (es : List Expr) (fs : List Addr) (dens : List (List D → Res D)) : Prop where
  pa : PA X es (fun _ H Q => Q (fs.map V.ref) H)
  len : fs.length = dens.length
  ok : ∀ (j : Nat) (f : Addr) (den : List D → Res D), fs[j]? = some f → dens[j]? = some den → OkF cl X n f den
end
end G
set_option maxHeartbeats 1000000
namespace G
open PySem PySem.Spec PyProof.Rows L2
section
variable {X : Cx}
theorem numT_ascii (n : Nat) : ∀ c ∈ numT n, c < 0x110000 := fun c hc => by
  have := TL.numL_digits n c hc
  omega
theorem num_tS (n : Nat) : Str.ofString (toString ((n : Nat) : Int)) = tS (numT n) := by
  refine TL.ext_tl ?_
  have e3 : TL.tl (tS (numT n)) = numT n := by simp [tS, TL.tl]
  rw [e3]
  exact TL.tl_num n
theorem o_strI : Op1 X (fun v => (fun xs H Q => ∃ i, xs = [.int i] ∧ i.natAbs.log2 < 1920 ∧ Q (.str (toString i)) H : List V → Hp → VK → Prop) [v]) fStrI := by
  intro S H x dx d ps Q s rx e k
  unfold fStrI at e
  split at e
  · split at e
    · rename_i i h
      simp only [Bool.and_eq_true, decide_eq_true_eq] at h
      cases e
      cases rx
      obtain ⟨n, rfl⟩ : ∃ n : Nat, i = n := ⟨i.toNat, by omega⟩
      refine ⟨_, rfl, ?_, ?_⟩
      · rw [Int.natAbs_natCast]
        have : n.log2 < 64 := by
          rcases Nat.eq_zero_or_pos n with z | z
          · subst z; decide
          · exact (Nat.log2_lt (by omega)).mpr (by omega)
        omega
      · rw [Int.toNat_natCast] at k
        show Q (.str (Str.ofString (toString ((n : Nat) : Int)))) H
        rw [num_tS]
        exact newV s (.str _ (numT_ascii n)) k
    · cases e
  · cases e
theorem o_pow : Op2 X (rI CPow fun i j => .int (i ^ j.toNat)) fPow := o_I fun a b d e => by
  unfold fPow at e
  split at e
  · split at e
    · rename_i i j h
      simp only [Bool.and_eq_true, decide_eq_true_eq] at h
      cases e
      exact ⟨_, _, rfl, rfl, ⟨h.1.1, by omega, h.2⟩, fun _ _ => .int _⟩
    · cases e
  · cases e
end
end G
namespace G
open PySem PySem.Spec PyProof.Rows L2
end G
namespace G
open PySem PySem.Spec PyProof.Rows L2
section
variable {cl : Cl} {P : Pins} {X : Cx} {W : WX}
end
end G
set_option maxHeartbeats 1000000
namespace PySem
open Sem (wp)
section
variable {prog : Program} {w : World} {A : Around} {E : Value → Shared → Prop} {s : Shared} {z TI TO T i1 i2 i3 : Addr} {fp1 fp2 fp3 : List Addr} {n1 n2 n3 i : Nat} {P1 P2 P3 : Nat → Value → Prop} {St1 St2 St3 : Nat → Heap → Prop} {f : Bool} {oT : Obj}
end
end PySem
set_option maxHeartbeats 1000000
namespace PySem
open Sem (wp)
section
variable {prog : Program} {w : World} {A : Around} {R : Result → Shared → Prop} {z TI TO i1 i2 i3 l1 l2 l3 : Addr} {xs ys zs : Array Value} {n : Nat}
end
end PySem
set_option maxHeartbeats 1000000
namespace PySem
open Sem (wp)
section
variable {prog : Program} {w : World} {A : Around} {s : Shared} {R : Result → Shared → Prop} {z TI TO i1 i2 i3 l1 l2 l3 : Addr} {xs ys zs : Array Value} {n : Nat}
end
section
variable {prog : Program} {w : World} {A : Around} {E : Value → Shared → Prop} {s : Shared} {z TI TO i1 i2 i3 l1 l2 l3 : Addr} {xs ys zs : Array Value} {n : Nat}
end
end PySem
set_option maxHeartbeats 1000000
namespace L2
open PySem PySem.Spec PyProof.Rows
end L2
namespace G
open PySem PySem.Spec PyProof.Rows L2
section
variable {cl : Cl} {X : Cx} {W : WX}
end
end G
set_option maxHeartbeats 1000000
namespace L2
open PySem PySem.Spec PyProof.Rows
end L2
namespace G
open PySem L2
section
variable {X : Cx}
end
section
variable {cl : Cl} {X : Cx} {W : WX} {a lo : Expr} {f g : E} {pos p2 : Pos}
end
end G
set_option maxHeartbeats 1000000
namespace G
open PySem PySem.Spec PyProof.Rows L2
theorem Its.keep {K : PySem.W.Frag} {S H S' H' : Hp} (es : Same S S') : ∀ {σ : L2.St} {ρ : Env} {ps : List Addr}, Its K S H σ ρ ps → (∀ x ∈ ps, ∀ o, H x = some o → H' x = some o) → Its K S' H' σ ρ ps
  | _, _, _, .nil, _ => .nil
  | _, _, _, .skip t, h => .skip (Its.keep es t h)
  | _, _, _, .item r t, h => .item (r.keep es fun x hx => h x (List.mem_append_left _ hx)) (Its.keep es t fun x hx => h x (List.mem_append_right _ hx))
def spI (cl : Cl) (K : PySem.W.Frag) (n : Nat) (den : List D → ResI) : Sp := fun vs H Q E => ∃ S H0 v0 ws ds ps, vs = v0 :: ws ∧ Same S H0 ∧ Same H0 H ∧ RpAll K S H vs ds ps ∧ ps.Nodup ∧ (∀ p ∈ ps, H0 p = none ∧ S p = none) ∧ ds.length = n ∧ match den ds with
  | .no => False
  | .ok d d0 => ∀ v S' H' qs ps', Grow S H0 S' H' → Rp K S' H' v0 d0 ps' → Rp K S' H' v d qs → (ps' ++ qs).Nodup → (∀ p ∈ ps' ++ qs, H0 p = none ∧ S' p = none) → Q v H'
  | .ex c fs d0 => ∀ S' H' cls dd ps', Grow S H0 S' H' → XR cl S' c fs cls dd → Rp K S' H' v0 d0 ps' → ps'.Nodup → (∀ p ∈ ps', H0 p = none ∧ S' p = none) → E cls dd H'
def P0 (v : V) : Pins := fun i => match i with
  | 0 => some v
  | _ => none
section
variable {cl : Cl}
theorem rl_begin {K : PySem.W.Frag} {S H0 H : Hp} {vs : List V} {ds : List D} {ps : List Addr} {N : List Str} {P : Pins} (s1 : Same S H0) (s2 : Same H0 H) (ra : RpAll K S H vs ds ps) (nd : ps.Nodup) (fr : ∀ p ∈ ps, H0 p = none ∧ S p = none)
    (pn : ∀ i v, P i = some v → (L2.start N vs)[i]? = some (some v)) : Rl K P S H0 S H (L2.start N vs) (ds.map some ++ List.replicate (N.length - ds.length) none) := by
  refine ⟨pn, ⟨s2, Same.refl _, s1.trans s2, fun a o k1 k2 => by rw [k1] at k2; cases k2⟩, ps, ?_, nd, fr⟩
  unfold L2.start
  rw [ra.length]
  exact its_start _ ra
theorem at0_ok {ρ : Env} {k : D → ResI} (h : at0 ρ k ≠ .no) : ∃ d0, ρ[0]? = some (some d0) ∧ at0 ρ k = k d0 := by
  unfold at0 at h ⊢
  split at h
  · rename_i d0 hd
    exact ⟨d0, hd, rfl⟩
  · exact absurd rfl h
theorem fn_okI {P : Program} {w : World} {K : PySem.W.Frag} {mg : Str → Option Value} {base : Heap} {x qual : Str} {st : Stmt} {fA : Addr} {fd : FuncData} {N ps : List Str} {k : Nat} {body : Sd} (Fn : Fun K x qual st fA fd) (Sc : FnScope N ps (defScope st))
    (hbody : ∀ (v0 : V) (cdv : Value) (A : Around) (outer : List PySem.Env) (s : Shared) (H : Hp) (E : XK), Room k (A.deeper (PyProof.Rows.envOfC qual (defScope st) s.heap.objs.size fA cdv)) →
      DSs cl (P0 v0) (cxOf (L2.CX P w) P w K mg base N qual (defScope st) fA cdv A outer s H E) (fun cls d _ H => E cls d H) (defBody st) body) :
    FnOk P w K mg base (L2.CX P w) (k + 1) fA fd ps (spI cl K ps.length (runI N.length body)) := by
  refine Fn.okX Sc (fun vs H Q E h => ?_) (fun cdv A outer s H vs Q E hr h => ?_)
  · obtain ⟨S, H0, v0, ws, ds, qs, _, _, _, ra, _, _, hl, _⟩ := h
    rw [ra.length, hl]
  · obtain ⟨S, H0, v0, ws, ds, qs, rfl, s1, s2, ra, nd, fr, hl, hd⟩ := h
    obtain ⟨t, pt, q⟩ := (hbody v0 cdv A outer s H E hr).pf
    have pn : ∀ i v, P0 v0 i = some v → (L2.start N (v0 :: ws))[i]? = some (some v) := fun i v hv => by
      cases i with
      | zero => cases hv; rfl
      | succ i => cases hv
    have pull : ∀ {S' H' σ ρ d0}, Rl K (P0 v0) S H0 S' H' σ ρ → ρ[0]? = some (some d0) → ∃ zs ys, Rp K S' H' v0 d0 zs ∧ Its K S' H' σ (ρ.set 0 none) ys ∧ zs.Nodup ∧ ∀ p ∈ zs, H0 p = none ∧ S' p = none := fun {S' H' σ ρ d0} R h0 => by
      obtain ⟨ps2, it, nd2, fr2⟩ := R.it
      obtain ⟨v', zs, ys, k1, k2, k3, k4, k5⟩ := it.pick 0 h0
      have := R.pn 0 v0 rfl
      rw [k1] at this; cases this
      exact ⟨zs, ys, k2, k3, (k5 nd2).2.1, fun p hp => fr2 p ((k4 p).mpr (.inr hp))⟩
    refine ⟨t, pt, q S H0 S H (L2.start N (v0 :: ws)) (ds.map some ++ List.replicate (N.length - ds.length) none) _ (rl_begin s1 s2 ra nd fr pn) ?_⟩
    unfold runI at hd
    cases k1 : body (ds.map some ++ List.replicate (N.length - ds.length) none) with
    | no => rw [k1] at hd; exact hd
    | bk ρ => rw [k1] at hd; exact hd.elim
    | ct ρ => rw [k1] at hd; exact hd.elim
    | nx ρ =>
      rw [k1] at hd
      intro S' H' σ R
      have hne : at0 ρ (fun d0 => .ok .non d0) ≠ .no := fun z => by simp only [endI, z] at hd
      obtain ⟨d0, h0, e0⟩ := at0_ok hne
      simp only [endI, e0] at hd
      obtain ⟨zs, ys, r0, _, nz, fz⟩ := pull R h0
      exact hd .non S' H' [] zs R.gr r0 .non (by simpa using nz) (by simpa using fz)
    | xc c fs ρ =>
      rw [k1] at hd
      intro S' H' σ cls dd R xr
      have hne : at0 ρ (fun d0 => .ex c fs d0) ≠ .no := fun z => by simp only [endI, z] at hd
      obtain ⟨d0, h0, e0⟩ := at0_ok hne
      simp only [endI, e0] at hd
      obtain ⟨zs, ys, r0, _, nz, fz⟩ := pull R h0
      exact hd S' H' cls dd zs R.gr xr r0 nz fz
    | rt d ρ =>
      rw [k1] at hd
      intro v S' H' σ R
      have hne : at0 ρ (fun d0 => .ok d d0) ≠ .no := fun z => by simp only [endI, z] at hd
      obtain ⟨d0, h0, e0⟩ := at0_ok hne
      simp only [endI, e0] at hd
      have hl2 : σ.length = ρ.length := by simpa using R.look.1
      have h0l : 0 < ρ.length := (List.getElem?_eq_some_iff.mp h0).1
      have pn2 : ∀ i v, P0 v0 i = some v → σ[i]? = some (some v) := fun i w hw => by
        have := R.pn i w hw
        cases i with
        | zero => rwa [List.getElem?_append_left (by omega)] at this
        | succ i => cases hw
      obtain ⟨as, bs, it, rv, nab, fab, R1⟩ := R.drop pn2
      obtain ⟨v', zs, ys, k1, k2, k3, k4, k5⟩ := it.pick 0 h0
      have := pn2 0 v0 rfl
      rw [k1] at this; cases this
      obtain ⟨m1, m2, m3⟩ := List.nodup_append.mp nab
      refine hd v S' H' bs zs R.gr k2 rv (List.nodup_append.mpr ⟨(k5 m1).2.1, m2, fun a ha b hb z => m3 a ((k4 a).mpr (.inr ha)) b hb z⟩) fun p hp => ?_
      rcases List.mem_append.mp hp with hp | hp
      · exact fab p (List.mem_append_left _ ((k4 p).mpr (.inr hp)))
      · exact fab p (List.mem_append_right _ hp)
end
end G
set_option maxHeartbeats 1000000
namespace L2
open PySem PySem.Spec PyProof.Rows
section
variable {X : Cx} {CX : CXT} {k : Nat} {f C : Addr} {fd : FuncData} {ps : List Str} {sp : Sp} {E : L2.St → XK} {x m : Str} {p pos apos : Pos} {e o : Expr} {es : List Expr} {ta : TE} {t : TA}
def tMethW (C : Addr) (m : Str) (sp : Sp) (E : L2.St → XK) (ta : TE) (t : TA) : TE := fun σ H Q => ta σ H fun x H1 => ∃ a dx fs, x = .ref a ∧ H1 a = some (.ins C dx fs) ∧ fs.lookup m = none ∧ t σ H1 fun vs H2 => sp (x :: vs) H2 Q (E σ)
theorem pe_methW0 {pl : Sem Bool} (he : PE X o ta) (c : Cls X.K C) (hm : Meth X.K C m f) (F : FnOk X.prog X.w X.K X.mg X.base CX k f fd ps sp) (hr : Room k X.A) (hb : Binds X.K fd ps []) (hx : ∀ σ, PassesAt CX X σ (E σ))
    (ht : eval (.Call (.Attribute o m apos) [] [] pos) X.env = (do
      let ov ← eval o X.env
      standAt apos.atName
      let (f, first) ← holding [ov] (getMethod ov m pl)
      callWith pos f first (backTo pos (starEach [] X.env)) (backToKw pos (keywordEach [] X.env))) := by rfl) :
    PE X (.Call (.Attribute o m apos) [] [] pos) (tMethW C m sp E ta tNil) := by
  refine ⟨fun pins s σ H Q I h => ?_⟩
  refine PySem.W.methodCall_KW (pl := pl) (thn (he.run pins s σ H _ I h) fun u s1 ⟨x, H1, I1, rx, a, dx, fs, ex, ea, l, q⟩ => ?_) ht
  subst ex
  obtain rfl : u = Value.ref a := rx
  refine getmeth_ok I1 ea c hm l ?_
  exact PySem.W.callWith_K0 (first := [.ref a]) I1.kIn hm.kp (run_fnS (us := [.ref a]) (vs := [.ref a]) F hr hb (hx σ) I1 (.cons rfl .nil) q)
end
end L2
namespace G
open PySem PySem.Spec PyProof.Rows L2
def clsB (K : PySem.W.Frag) (c : String) : Bool := PySem.W.plainGet K (clK K c) Str.empty && (PySem.W.hasDictIn K (clK K c) && (PySem.W.plainOver K (clK K c) && (PySem.W.findIn K (.ref (clK K c)) "__setattr__" == some (some (.builtin "object.__setattr__")))))
theorem clsB_ok {K : PySem.W.Frag} {c : String} (h : clsB K c = true) : Cls K (clK K c) := by
  obtain ⟨h1, h⟩ := Bool.and_eq_true_iff.mp h
  obtain ⟨h2, h⟩ := Bool.and_eq_true_iff.mp h
  obtain ⟨h3, h4⟩ := Bool.and_eq_true_iff.mp h
  exact ⟨h1, h2, h3, beq_iff_eq.mp h4⟩
def naB (K : PySem.W.Frag) (c n : String) : Bool := PySem.W.findIn K (.ref (clK K c)) (Str.ofString n) == some none
theorem naB_ok {K : PySem.W.Frag} {c n : String} (h : naB K c n = true) : NoAttr K (clK K c) (Str.ofString n) := beq_iff_eq.mp h
def mthB (K : PySem.W.Frag) (c m : String) (f : Addr) : Bool := (PySem.W.findIn K (.ref (clK K c)) (Str.ofString m) == some (some (.ref f))) && (PySem.W.isFn K (.ref f) && PySem.W.keepIn K (.ref f))
theorem mthB_ok {K : PySem.W.Frag} {c m : String} {f : Addr} (h : mthB K c m f = true) : Meth K (clK K c) (Str.ofString m) f := by
  obtain ⟨h1, h⟩ := Bool.and_eq_true_iff.mp h
  obtain ⟨h2, h3⟩ := Bool.and_eq_true_iff.mp h
  exact ⟨beq_iff_eq.mp h1, h2, h3⟩
def mkB (K : PySem.W.Frag) (c : String) (f : Addr) : Bool := PySem.W.makesIn K (clK K c) && ((PySem.W.findIn K (.ref (clK K c)) "__init__" == some (some (.ref f))) && (PySem.W.isFn K (.ref f) && PySem.W.keepIn K (.ref (clK K c))))
theorem mkB_ok {K : PySem.W.Frag} {c : String} {f : Addr} (h : mkB K c f = true) : Mk K (clK K c) f := by
  obtain ⟨h1, h⟩ := Bool.and_eq_true_iff.mp h
  obtain ⟨h2, h⟩ := Bool.and_eq_true_iff.mp h
  obtain ⟨h3, h4⟩ := Bool.and_eq_true_iff.mp h
  exact ⟨h1, beq_iff_eq.mp h2, h3, h4⟩
theorem str_inj {a b : String} (h : Str.ofString a = Str.ofString b) : a = b := by
  have h1 : (Str.ofString a).cps.toList = (Str.ofString b).cps.toList := by rw [h]
  have e : ∀ s : String, (Str.ofString s).cps.toList = s.toList.map Char.toNat := fun s => by rw [Str.ofString_eq_toList]
  rw [e, e] at h1
  have h2 : a.toList = b.toList := by
    refine List.map_inj_right (f := Char.toNat) (fun x y hxy => ?_) |>.mp h1
    exact Char.ext (by rw [← UInt32.toNat_inj]; exact hxy)
  exact String.toList_inj.mp h2
theorem lookF_of {n : String} {v : D} {K : PySem.W.Frag} {S H : Hp} : ∀ {fs : List String} {vs : List D} {fv : List (Str × V)} {ps : List Addr}, fv.map (·.1) = fs.map Str.ofString → RpAll K S H (fv.map (·.2)) vs ps → lookF n fs vs = some v → ∃ u qs, fv.lookup (Str.ofString n) = some u ∧ Rp K S H u v qs
  | [], _, _, _, _, _, h => by simp [lookF] at h
  | f :: fs, [], _, _, _, _, h => by simp [lookF] at h
  | f :: fs, x :: vs, [], _, e, _, _ => by simp at e
  | f :: fs, x :: vs, (g, u) :: fv, _, e, r, h => by
    simp only [List.map_cons, List.cons.injEq] at e
    cases r with | cons r1 r2 =>
    unfold lookF at h
    split at h
    · rename_i hf
      subst hf
      cases h
      exact ⟨u, _, by rw [e.1]; simp [List.lookup], r1⟩
    · rename_i hf
      obtain ⟨u', qs, h1, h2⟩ := lookF_of e.2 r2 h
      refine ⟨u', qs, ?_, h2⟩
      have : (Str.ofString n == g) = false := by
        rw [e.1]
        exact beq_eq_false_iff_ne.mpr fun z => hf (str_inj z).symm
      simp only [List.lookup, this]; exact h1
theorem lookF_none {n : String} : ∀ {fs : List String} {fv : List (Str × V)}, fv.map (·.1) = fs.map Str.ofString → n ∉ fs → fv.lookup (Str.ofString n) = none
  | [], [], _, _ => rfl
  | [], _ :: _, e, _ => by simp at e
  | _ :: _, [], e, _ => by simp at e
  | f :: fs, (g, u) :: fv, e, h => by
    simp only [List.map_cons, List.cons.injEq] at e
    simp only [List.mem_cons, not_or] at h
    have : (Str.ofString n == g) = false := by
      rw [e.1]
      exact beq_eq_false_iff_ne.mpr fun z => h.1 (str_inj z)
    simp only [List.lookup, this]
    exact lookF_none e.2 h.2
theorem Rp.ins {K : PySem.W.Frag} {S H : Hp} {v : V} {o : Bool} {c : String} {fs : List String} {ds : List D} {ps : List Addr} (h : Rp K S H v (.ins o c fs ds) ps) (s : Same S H) (hx : "!" ∉ fs) :
    ∃ a dx fv qs, v = .ref a ∧ H a = some (.ins (clK K c) dx fv) ∧ fv.map (·.1) = fs.map Str.ofString ∧ RpAll K S H (fv.map (·.2)) ds qs := by
  cases h with
  | xcp q f =>
    exfalso
    rcases f with ⟨e, _⟩ | ⟨_, _, _, _, e, _⟩ <;> rw [e] at hx <;> simp at hx
  | insS q k r z => exact ⟨_, _, _, _, rfl, s _ _ q, k.1, r⟩
  | insO q k r => exact ⟨_, _, _, _, rfl, q, k.1, r⟩
theorem insOk_of {c m : String} {d : D} (h : insOk c m d = true) : ∃ o fs ds, d = .ins o c fs ds ∧ m ∉ fs ∧ "!" ∉ fs := by
  unfold insOk at h
  split at h
  · rename_i o c' fs ds
    simp only [Bool.and_eq_true, beq_iff_eq, Bool.not_eq_true', List.contains_eq_mem, decide_eq_false_iff_not] at h
    exact ⟨o, fs, ds, by rw [h.1], h.2.1, h.2.2⟩
  · cases h
section
variable {cl : Cl} {P : Pins} {X : Cx} {W : WX} {e o : Expr} {es : List Expr} {f : E} {fs : List E} {p apos pos : Pos} {i k n : Nat} {fA : Addr} {fd : FuncData} {ps : List Str} {x : Str}
theorem de_meth0 {c m : String} {ms : Str} {den : List D → Res D} {pl : Sem Bool} (hms : ms = Str.ofString m) (hc : clsB X.K c = true) (hmt : mthB X.K c m fA = true) (F : FnOk X.prog X.w X.K X.mg X.base (L2.CX X.prog X.w) k fA fd ps (spD cl X.K 1 den)) (hr : Room k X.A) (hb : Binds X.K fd ps [])
    (tk : Takes X W) (ho : DO cl X W o f)
    (ht : eval (.Call (.Attribute o ms apos) [] [] pos) X.env = (do
      let ov ← eval o X.env
      standAt apos.atName
      let (f, first) ← holding [ov] (getMethod ov ms pl)
      callWith pos f first (backTo pos (starEach [] X.env)) (backToKw pos (keywordEach [] X.env))) := by rfl) :
    DE cl X W (.Call (.Attribute o ms apos) [] [] pos) (eMeth c m f den []) := by
  subst hms
  obtain ⟨to, po, qo⟩ := ho.pf
  refine ⟨_, pe_methW0 (pl := pl) po (clsB_ok hc) (mthB_ok hmt) F hr hb (fun σ => passAt tk σ) ht, fun σ ρ S H Q l s z => ?_⟩
  unfold eMeth at z
  cases kf : f ρ with
  | no => rw [kf] at z; exact qo σ ρ S H _ l s (by rw [kf]; exact z)
  | ex c' fs' => rw [kf] at z; exact qo σ ρ S H _ l s (by rw [kf]; exact z)
  | ok d =>
    rw [kf] at z
    cases hi : insOk c m d with
    | false => simp only [Res.bind, hi] at z; exact z.elim
    | true =>
      simp only [Res.bind, hi, if_true] at z
      have zc := call_post (n := 1) (fs := [f]) rfl z
      have zo := PostO.ofA (r := f ρ) (g := fun d => (eArgs [] ρ).bind fun ds => .ok (d :: ds)) zc
      refine qo σ ρ S H _ l s (zo.imp ?_)
      rintro v H1 ⟨d1, S1, qs, e1, g1, rp, z1⟩
      rw [kf] at e1; cases e1
      obtain ⟨o', fs', ds', rfl, hm1, hx1⟩ := insOk_of hi
      obtain ⟨a, dx, fv, _, rfl, ha, hf, _⟩ := rp.ins g1.sh hx1
      exact ⟨a, dx, fv, rfl, ha, lookF_none hf hm1, z1 [.ref a] S1 H1 _ (Grow.refl g1.sh) (.cons rp .nil)⟩
end
end G
set_option maxHeartbeats 1000000
namespace G
open PySem PySem.Spec PyProof.Rows L2
theorem Rp.at {K : PySem.W.Frag} {S H : Hp} {v : V} {d : D} {ps : List Addr} (r : Rp K S H v d ps) (h : d.at = true) : ps = [] ∧ ∀ S' H', Rp K S' H' v d [] := by
  cases r with
  | non => exact ⟨rfl, fun _ _ => .non⟩
  | bl b => exact ⟨rfl, fun _ _ => .bl b⟩
  | int i => exact ⟨rfl, fun _ _ => .int i⟩
  | str s hs => exact ⟨rfl, fun _ _ => .str s hs⟩
  | scr _ _ => simp [D.at] at h
  | lstS _ _ _ => simp [D.at] at h
  | lstO _ _ => simp [D.at] at h
  | tupS _ _ _ => simp [D.at] at h
  | tupO _ _ => simp [D.at] at h
  | dicS _ _ _ _ => simp [D.at] at h
  | dlk _ _ _ _ => simp [D.at] at h
  | dicO _ _ _ => simp [D.at] at h
  | xcp _ _ => simp [D.at] at h
  | insS _ _ _ _ => simp [D.at] at h
  | insO _ _ _ => simp [D.at] at h
theorem RpAll.ats {K : PySem.W.Frag} {S H : Hp} : ∀ {vs : List V} {ds : List D} {ps : List Addr}, RpAll K S H vs ds ps → ats ds = true → ps = [] ∧ ∀ S' H', RpAll K S' H' vs ds []
  | _, _, _, .nil, _ => ⟨rfl, fun _ _ => .nil⟩
  | _, _, _, .cons r t, h => by
    simp only [G.ats, List.all_cons, Bool.and_eq_true] at h
    obtain ⟨e1, r1⟩ := r.at h.1
    obtain ⟨e2, r2⟩ := RpAll.ats t h.2
    subst e1 e2
    exact ⟨rfl, fun S' H' => by simpa using RpAll.cons (r1 S' H') (r2 S' H')⟩
def RlA (K : PySem.W.Frag) (P : Pins) (S0 H0 S H : Hp) (σ : L2.St) (ρ : Env) (vs : List V) (ds : List D) : Prop := ∃ qs, Rl K P S0 H0 S H σ ρ ∧ RpAll K S H vs ds qs ∧ qs.Nodup ∧ (∀ p ∈ qs, H0 p = none ∧ S p = none) ∧ ∃ ps, Its K S H σ ρ ps ∧ ps.Nodup ∧ (∀ p ∈ ps, H0 p = none ∧ S p = none) ∧ ∀ p ∈ ps, p ∉ qs
def PostMA (cl : Cl) (K : PySem.W.Frag) (P : Pins) (W : WX) (σ : L2.St) (S0 H0 : Hp) (r : ResMA) (Q : List V → Hp → Prop) : Prop := match r with
  | .no => False
  | .ok ds ρ => ∀ vs S H, RlA K P S0 H0 S H σ ρ vs ds → Q vs H
  | .ex c fs ρ => ∀ S H cls dd, Rl K P S0 H0 S H σ ρ → XR cl S c fs cls dd → W cls dd σ H
structure DMA (cl : Cl) (P : Pins) (X : Cx) (W : WX) (es : List Expr) (m : Env → ResMA) : Prop where
  pf : ∃ t : TA, PA X es t ∧ ∀ (S0 H0 S H : Hp) (σ : L2.St) (ρ : Env) (Q : List V → Hp → Prop), Rl X.K P S0 H0 S H σ ρ → PostMA cl X.K P W σ S0 H0 (m ρ) Q → t σ H Q
section
variable {cl : Cl} {P : Pins} {X : Cx} {W : WX} {e o : Expr} {es : List Expr} {f : E} {m : M} {fs as bs : List E} {p apos pos cpos : Pos} {i j k n : Nat} {fA : Addr} {fd : FuncData} {ps : List Str} {x : Str}
end
end G
set_option maxHeartbeats 1000000
namespace G
open PySem PySem.Spec PyProof.Rows L2
section
variable {cl : Cl} {P : Pins} {X : Cx} {W : WX} {e o : Expr} {es : List Expr} {f : E} {m : M} {fs as bs : List E} {p p' apos pos cpos : Pos} {i j k n : Nat} {fA : Addr} {fd : FuncData} {ps : List Str} {x : Str}
theorem de_make {c : String} {den : List D → ResI} (hM : mkB X.K c fA = true) (F : FnOk X.prog X.w X.K X.mg X.base (L2.CX X.prog X.w) k fA fd ps (spI cl X.K n den)) (hr : Room (k + 1) X.A) (hg : Gl X x) (hm : X.mg x = some (.ref (clK X.K c))) (hb : Binds X.K fd ps [])
    (ha : DA cl X W (e :: es) fs) (hn : fs.length + 1 = n := by rfl) (hdb : (x == ("__debug__" : Str)) = false := by decide) (he : starEach (e :: es) X.env = (false, eval e X.env) :: starEach es X.env := by rfl) (hpl : (backTo pos (starEach es X.env)).any (·.1) = false := by rfl) :
    DE cl X W (.Call (.Name x p) (e :: es) [] pos) (eMake c den fs) := by
  obtain ⟨t, pt, q⟩ := ha.pf
  refine ⟨_, pe_make (mkB_ok hM) F hr hg hm hb .nil passL pt hdb he hpl, fun σ ρ S H Q l s z => q σ ρ S H _ l s ?_⟩
  unfold eMake at z
  cases ka : eArgs fs ρ with
  | no => rw [ka] at z; exact z
  | ex c' fs' => rw [ka] at z; exact z
  | ok ds =>
    rw [ka] at z
    cases hsh : shs ds with
    | false => simp only [Res.bind, hsh] at z; exact z.elim
    | true =>
      simp only [Res.bind, hsh, if_true] at z
      intro vs S1 H1 qs g1 ra a dx hax hdx hne
      obtain ⟨e0, ra0⟩ := ra.sh hsh
      rw [List.append_nil]
      have hH0 : upd H1 dx (.own a) a = none := by rw [upd_ne (fun z => hne z.symm)]; exact hax
      have s01 : Same H1 (upd H1 dx (.own a)) := same_new hdx
      refine ⟨S1, upd H1 dx (.own a), .ref a, vs, .ins true c [] [] :: ds, [a] ++ [], rfl, g1.sh.trans s01, same_new hH0, .cons (.insO (fv := []) upd_same ⟨rfl, by simp⟩ .nil) (ra0 _), by simp, fun p hp => ?_, by simp [eArgs_len ka, hn], ?_⟩
      · have : p = a := by simpa using hp
        subst this
        exact ⟨hH0, none_back g1.sh hax⟩
      · cases kd : den (.ins true c [] [] :: ds) with
        | no => simp only [kd] at z; exact z
        | ex c' fs' d0 => simp only [kd] at z; exact z.elim
        | ok d d0 =>
          cases d with
          | non =>
            simp only [kd] at z
            intro v S' H' ys zs g r0 rv nn ff
            cases rv
            refine ⟨rfl, z (.ref a) S' H' zs ⟨g1.hh.trans (s01.trans g.hh), g1.ss.trans g.ss, g.sh, fun b u k1 k2 => ?_⟩ ⟨(List.nodup_append.mp nn).1, fun b hb => ?_⟩ r0⟩
            · cases k3 : S1 b with
              | none => exact none_back (g1.hh.trans s01) (g.nw b u k1 k3)
              | some w => exact g1.nw b w k3 k2
            · have := ff b (List.mem_append_left _ hb)
              exact ⟨none_back (g1.hh.trans s01) this.1, this.2⟩
          | _ => simp only [kd] at z; exact z.elim
theorem fld_at {K : PySem.W.Frag} {S H : Hp} {c n : String} {v : V} {d d' : D} {qs : List Addr} (s : Same S H) (rp : Rp K S H v d qs) (h : fFldO c n d = some d') : ∃ a dx fv u rs, v = .ref a ∧ H a = some (.ins (clK K c) dx fv) ∧ fv.lookup (Str.ofString n) = some u ∧ Rp K S H u d' rs := by
  unfold fFldO at h
  split at h
  · rename_i o c' fs vs
    split at h
    · rename_i hc
      simp only [Bool.and_eq_true, beq_iff_eq, Bool.not_eq_true', List.contains_eq_mem, decide_eq_false_iff_not] at hc
      obtain ⟨rfl, hx⟩ := hc
      obtain ⟨a, dx, fv, ps, rfl, ha, hf, ra⟩ := rp.ins s hx
      obtain ⟨u, rs, h1, h2⟩ := lookF_of hf ra h
      exact ⟨a, dx, fv, u, rs, rfl, ha, h1, h2⟩
    · cases h
  · cases h
theorem do_fld {c n : String} {ns : Str} (hns : ns = Str.ofString n) (hc : clsB X.K c = true) (hn : naB X.K c n = true) (ho : DO cl X W o f) (hb : attributeBase o ns X.env (eval o X.env) = eval o X.env := by rfl) : DO cl X W (.Attribute o ns pos) (e1 (fFldO c n) f) := by
  subst hns
  obtain ⟨t, pt, q⟩ := ho.pf
  refine ⟨_, pe_fld pt hb, fun σ ρ S H Q l s z => q σ ρ S H _ l s ?_⟩
  unfold e1 at z
  cases kf : f ρ with
  | no => rw [kf] at z; exact z
  | ex c' fs' => rw [kf] at z; exact z
  | ok d =>
    rw [kf] at z
    intro v S1 H1 qs g1 rp
    cases k2 : fFldO c n d with
    | none => simp only [Res.bind, k2, Res.of] at z; exact z.elim
    | some d' =>
      simp only [Res.bind, k2, Res.of] at z
      obtain ⟨a, dx, fv, u, rs, rfl, ha, hl, ru⟩ := fld_at g1.sh rp k2
      exact ⟨a, _, dx, fv, u, rfl, ha, clsB_ok hc, naB_ok hn, hl, z u S1 H1 rs g1 ru⟩
theorem de_fld {c n : String} {ns : Str} (hns : ns = Str.ofString n) (hc : clsB X.K c = true) (hn : naB X.K c n = true) (ho : DO cl X W o f) (hb : attributeBase o ns X.env (eval o X.env) = eval o X.env := by rfl) : DE cl X W (.Attribute o ns pos) (e1 (fFld c n) f) := by
  obtain ⟨t, pt, q⟩ := (do_fld (cl := cl) (W := W) (pos := pos) hns hc hn ho hb).pf
  refine ⟨t, pt, fun σ ρ S H Q l s z => q σ ρ S H _ l s ?_⟩
  unfold e1 at z ⊢
  cases kf : f ρ with
  | no => rw [kf] at z; exact z
  | ex c' fs' => rw [kf] at z; exact z
  | ok d =>
    rw [kf] at z
    show PostO cl X.K W σ S H (Res.of (fFldO c n d)) Q
    replace z : PostE cl X.K W σ S H (Res.of (fFld c n d)) Q := z
    unfold fFld at z
    cases k2 : fFldO c n d with
    | none => rw [k2] at z; exact z
    | some d' =>
      rw [k2] at z
      cases hs : d'.sh with
      | false => simp only [Option.bind_some, hs] at z; exact z.elim
      | true =>
        simp only [Option.bind_some, hs, if_true] at z
        intro v S1 H1 qs g1 rp
        obtain ⟨e0, r0⟩ := rp.sh hs
        subst e0
        exact z v S1 H1 [] g1 Fresh.nil (r0 H1)
theorem putF_rp {K : PySem.W.Frag} {S H : Hp} {n : String} {y : V} {d : D} {qs : List Addr} (ry : Rp K S H y d qs) : ∀ {fs : List String} {vs : List D} {fv : List (Str × V)} {ps : List Addr}, fv.map (·.1) = fs.map Str.ofString → RpAll K S H (fv.map (·.2)) vs ps →
    ∃ ws, (putF (Str.ofString n) y fv).map (·.1) = (setFn n fs).map Str.ofString ∧ RpAll K S H ((putF (Str.ofString n) y fv).map (·.2)) (setFv n d fs vs) ws ∧ (∀ w ∈ ws, w ∈ ps ∨ w ∈ qs) ∧ (ps.Nodup → qs.Nodup → (∀ p ∈ ps, p ∉ qs) → ws.Nodup)
  | [], _, [], _, _, .nil => ⟨qs ++ [], rfl, .cons ry .nil, fun w hw => .inr (by simpa using hw), fun _ h _ => by simpa using h⟩
  | [], _, _ :: _, _, e, _ => by simp at e
  | _ :: _, _, [], _, e, _ => by simp at e
  | f :: fs, _, (g, u) :: fv, _, e, .cons (ds := vs) (ps := p0) (qs := p1) r t => by
    simp only [List.map_cons, List.cons.injEq] at e
    by_cases h : f = n
    · subst h
      refine ⟨qs ++ p1, ?_, ?_, fun w hw => ?_, fun h1 h2 h3 => ?_⟩
      · simp only [putF, e.1, if_true, setFn, List.map_cons, e.2]
      · simp only [putF, e.1, if_true, setFv, List.map_cons]
        exact .cons ry t
      · rcases List.mem_append.mp hw with z | z
        · exact .inr z
        · exact .inl (List.mem_append_right _ z)
      · exact List.nodup_append.mpr ⟨h2, (List.nodup_append.mp h1).2.1, fun a ha b hb z => h3 b (List.mem_append_right _ hb) (z ▸ ha)⟩
    · have hg : ¬ g = Str.ofString n := by
        rw [e.1]; exact fun z => h (str_inj z)
      obtain ⟨ws, a1, a2, a3, a4⟩ := putF_rp (n := n) ry e.2 t
      refine ⟨p0 ++ ws, ?_, ?_, fun w hw => ?_, fun h1 h2 h3 => ?_⟩
      · simp only [putF, if_neg hg, setFn, if_neg h, List.map_cons, a1]; rw [e.1]
      · simp only [putF, hg, if_false, setFv, h, List.map_cons]
        exact .cons r a2
      · rcases List.mem_append.mp hw with z | z
        · exact .inl (List.mem_append_left _ z)
        · exact (a3 w z).elim (fun y => .inl (List.mem_append_right _ y)) .inr
      · obtain ⟨m1, m2, m3⟩ := List.nodup_append.mp h1
        refine List.nodup_append.mpr ⟨m1, a4 m2 h2 fun p hp => h3 p (List.mem_append_right _ hp), fun a ha b hb z => ?_⟩
        subst z
        rcases a3 a hb with y | y
        · exact m3 a ha a y rfl
        · exact h3 a (List.mem_append_left _ ha) y
theorem setFn_x {n : String} (h : n ≠ "!") : ∀ {fs : List String}, "!" ∉ fs → "!" ∉ setFn n fs
  | [], _ => by simpa [setFn] using fun z => h z.symm
  | f :: fs, h2 => by
    simp only [List.mem_cons, not_or] at h2
    unfold setFn
    split
    · simpa using h2
    · simp only [List.mem_cons, not_or]; exact ⟨h2.1, setFn_x h h2.2⟩
theorem len_map {α β γ : Type} {f : α → γ} {g : β → γ} {xs : List α} {ys : List β} (h : xs.map f = ys.map g) : xs.length = ys.length := by simpa using congrArg List.length h
theorem rl_fld {K : PySem.W.Frag} {S0 H0 S H : Hp} {σ : L2.St} {ρ : Env} (R : Rl K P S0 H0 S H σ ρ) {c n : String} {fs : List String} {vs : List D} (e : ρ[i]? = some (some (.ins true c fs vs))) {S1 H1 : Hp} (g : Grow S H S1 H1) {y : V} {d : D} {qs : List Addr} (fr : Fresh H S1 qs) (ry : Rp K S1 H1 y d qs) (hn : n ≠ "!") :
    ∃ a dx fv, σ[i]? = some (some (.ref a)) ∧ H a = some (.ins (clK K c) dx fv) ∧ H1 a = some (.ins (clK K c) dx fv) ∧ fv.length = fs.length ∧ (∀ v, lookF n fs vs = some v → ∃ u rs, fv.lookup (Str.ofString n) = some u ∧ Rp K S H u v rs) ∧ Rl K P S0 H0 S1 (upd H1 a (.ins (clK K c) dx (putF (Str.ofString n) y fv))) σ (put ρ i (.ins true c (setFn n fs) (setFv n d fs vs))) := by
  obtain ⟨v0', q0', hv0', rv0'⟩ := R.look.2 i _ e
  obtain ⟨v0, a, q0, h1, h2, h3, h4, h5, h6, h7, h8, up⟩ := rl_place (p := []) R e rfl rfl g fr
  cases h2
  rw [hv0'] at h1; cases h1
  cases h4 with
  | @insO _ dx _ _ fv _ _ hl kk ra =>
  cases rv0' with
  | @insO _ dx' _ _ fv' _ q1' hl' kk' ra' =>
  have := g.hh _ _ hl'
  rw [hl] at this; cases this
  obtain ⟨ws, a1, a2, a3, a4⟩ := putF_rp (n := n) ry kk.1 ra
  have haw : a ∉ ws := fun z => (a3 a z).elim h5 h7
  refine ⟨a, dx, fv, hv0', hl', hl, len_map kk.1, fun v hv => lookF_of kk'.1 ra' hv, ?_⟩
  have := up (.ins (clK K c) dx (putF (Str.ofString n) y fv)) (.ins true c (setFn n fs) (setFv n d fs vs)) ws a3 (a4 h8 fr.1 h6) (.insO upd_same ⟨a1, setFn_x hn kk.2⟩ (a2.set haw))
  simpa [setP] using this
theorem ds_setF (i : Nat) {c n : String} {ns : Str} (hns : ns = Str.ofString n) (hc : clsB X.K c = true) (hna : naB X.K c n = true) (ho : PE X o (tVar i)) (he : DE cl X W e f)
    (hs : swapsWith e (some (.Attribute o ns p')) pos.line X.env = pure false := by rfl) : DS cl P X W (.Assign [.Attribute o ns p'] e pos) (sSetF i c n f) := by
  subst hns
  obtain ⟨t, pt, q⟩ := he.pf
  refine ⟨_, ps_fld ho pt hs, fun S0 H0 S H σ ρ Dn R z => q σ ρ S H _ R.look R.gr.sh ?_⟩
  unfold sSetF at z
  cases kf : f ρ with
  | no => rw [kf] at z; exact z
  | ex c' fs' => rw [kf] at z; exact fun S' H' cls dd g x => z S' H' σ cls dd (R.grow g) x
  | ok d =>
    rw [kf] at z
    intro v S1 H1 qs g1 fr rp
    simp only [sE] at z
    rcases get_cases ρ i with eg | ⟨d0, eg⟩
    · rw [eg] at z; exact z.elim
    · rw [eg] at z
      cases d0 with
      | ins ow c' fs vs =>
        cases ow with
        | false => exact z.elim
        | true =>
          simp only at z
          split at z
          · rename_i hq
            simp only [Bool.and_eq_true, beq_iff_eq, decide_eq_true_eq, bne_iff_ne] at hq
            obtain ⟨rfl, hlen, hne⟩ := hq
            obtain ⟨a, dx, fv, k1, k2, k3, k4, k5, k6⟩ := rl_fld R (get_some eg) g1 fr rp hne
            exact ⟨.ref a, k1, a, _, dx, fv, rfl, k3, clsB_ok hc, naB_ok hna, by omega, z S1 _ σ k6⟩
          · exact z.elim
      | _ => exact z.elim
end
end G
set_option maxHeartbeats 1000000
namespace L2
open PySem PySem.Spec PyProof.Rows
section
variable {X : Cx} {e b : Expr} {te tb : TE} {pos pos' : Pos}
end
end L2
namespace G
open PySem PySem.Spec PyProof.Rows L2
section
variable {cl : Cl} {P : Pins} {X : Cx} {W : WX} {a b lo : Expr} {f g : E} {pos pos' p2 p0 : Pos} {i : Nat}
end
end G
set_option maxHeartbeats 1000000
namespace G
open PySem PySem.Spec PyProof.Rows L2
section
variable {cl : Cl} {P : Pins} {X : Cx} {W : WX}
end
end G
set_option maxHeartbeats 1000000
namespace G
open PySem PySem.Spec PyProof.Rows L2
section
variable {cl : Cl} {P : Pins} {X : Cx} {W : WX} {o : Expr} {pl : Pl} {apos cpos pos : Pos} {st : Stmt} {F : Sd}
theorem dm_clear (i : Nat) (ho : DPl cl X W o i pl) (hbase : attributeBase o "clear" X.env (eval o X.env) = eval o X.env := by rfl) (hline : (apos.endLine == cpos.line) = true := by rfl) : DM cl P X W (.Call (.Attribute o "clear" apos) [] [] cpos) (mClear i pl) := by
  obtain ⟨to, po, qo⟩ := ho.pf
  refine ⟨_, pe_bm0 PySem.F.plainAttrs_list PySem.F.slot_list_clear PySem.F.type_list_clear mt_clear po hbase hline, fun S0 H0 S H σ ρ Q R z => ?_⟩
  unfold mClear at z
  refine qo σ ρ S H _ R.look R.gr.sh ?_
  cases k1 : pl ρ with
  | no => rw [k1] at z; exact z
  | ex c fs => rw [k1] at z; exact fun S' H' cls dd g x => z S' H' cls dd (R.grow g) x
  | ok p =>
    rw [k1] at z
    intro v v0 S1 H1 g1 hv0 hva
    replace z : PostM cl X.K P W σ S0 H0 (mR (partAt ρ i p) ρ fun l => clearK ρ i p l) Q := z
    have R1 := R.grow g1
    cases k2 : partAt ρ i p with
    | no => rw [k2] at z; exact z.elim
    | ex c fs => exact absurd k2 partAt_ex
    | ok d' =>
      rw [k2] at z
      obtain ⟨d0, hd0, hp⟩ := partAt_ok k2
      replace z : PostM cl X.K P W σ S0 H0 (clearK ρ i p d') Q := z
      unfold clearK at z
      split at z
      · rename_i xs
        split at z
        · rename_i d0' hg
          have : d0' = d0 := by
            have := get_some hg
            rw [hd0] at this; cases this; rfl
          subst this
          obtain ⟨w0, a, qs, h1, h2, h3, h4, h5, h6, h7, h8, up⟩ := rl_place2 R1 hd0 hp rfl (Grow.refl g1.sh) Fresh.nil
          rw [hv0] at h1; cases h1
          have := hva.det h2; subst this
          cases h4 with
          | @lstO _ vs _ _ hl ra =>
          refine ⟨.inl ⟨rfl, vs, .inl (.inl hl)⟩, a, vs, rfl, rfl, hl, ?_⟩
          exact z .non S1 _ (up (.lst []) (.lst true []) .non .non [] [] (fun w hw => nomatch hw) List.nodup_nil (.lstO upd_same .nil) .non)
        · exact z.elim
      · exact z.elim
theorem Rp.frzK {K : PySem.W.Frag} {S S' H : Hp} (es : Same S S') {v : V} {d : D} {qs : List Addr} (h : Rp K S H v d qs) (ho : d.isO = true) : ∃ a ps, qs = a :: ps ∧ ((∀ p ∈ ps, ∀ o, H p = some o → S' p = some o) → Rp K S' H v d.frzK [a]) := by
  cases h with
  | lstO q r => exact ⟨_, _, rfl, fun hp => .lstO q (r.frz es hp H)⟩
  | tupO q r => exact ⟨_, _, rfl, fun hp => .tupO q (r.frz es hp H)⟩
  | dicO q k r => exact ⟨_, _, rfl, fun hp => .dicO q k (r.frz es hp H)⟩
  | insO q k r => exact ⟨_, _, rfl, fun hp => .insO q k (r.frz es hp H)⟩
  | _ => cases ho
end
structure DOT (cl : Cl) (X : Cx) (W : WX) (e : Expr) (f : E) : Prop where
  pf : ∃ t : TE, PET X e t ∧ ∀ (σ : L2.St) (ρ : Env) (S H : Hp) (Q : VK), Look X.K S H σ ρ → Same S H → PostO cl X.K W σ S H (f ρ) Q → t σ H Q
section
variable {cl : Cl} {X : Cx} {W : WX} {o e : Expr} {f g : E} {pos apos c0 c1 p0 : Pos} {y z : Str} {j k j0 : Nat}
theorem DO.t (h : DO cl X W e f) : DOT cl X W e f := let ⟨t, p, q⟩ := h.pf; ⟨t, CwR.PET.of p, q⟩
end
end G
set_option maxHeartbeats 1000000
namespace G
open PySem PySem.Spec PyProof.Rows L2
section
variable {cl : Cl} {P : Pins} {X : Cx} {W : WX} {e o k : Expr} {f g : E} {m m' : M} {F F' : Sd} {st : Stmt} {pos p' apos : Pos} {i : Nat}
theorem pe_or {t u : TE} (h1 : PE X e t) (h2 : PE X e u) : PE X e (fun σ H Q => t σ H Q ∨ u σ H Q) := ⟨fun pins s σ H Q I h => h.elim (h1.run pins s σ H Q I) (h2.run pins s σ H Q I)⟩
theorem kK_inj {a b : KD} (h : kK a = kK b) : a = b := by
  cases a <;> cases b <;> simp only [kK] at h
  · cases h; rfl
  · cases h
  · cases h
  · exact congrArg Sum.inr (tS_inj (by injection h))
theorem keyD_rp {K : PySem.W.Frag} {S H : Hp} {v : V} {d : D} {ps : List Addr} {k : KD} (r : Rp K S H v d ps) (h : keyD d = some k) : v = kV (kK k) ∧ kOk k := by
  unfold keyD at h
  split at h
  · cases h; cases r; exact ⟨rfl, trivial⟩
  · cases h; cases r with | str _ hc => exact ⟨rfl, hc⟩
  · cases h
theorem lookK_of {K : PySem.W.Frag} {S H : Hp} {k : KD} {d : D} : ∀ {ks : List KD} {kvs : List (Key × V)} {vs : List D} {ps : List Addr}, kvs.map (·.1) = ks.map kK → RpAll K S H (kvs.map (·.2)) vs ps → lookK k ks vs = some d → ∃ v qs, valV kvs (kK k) = some v ∧ Rp K S H v d qs ∧ ∀ q ∈ qs, q ∈ ps
  | [], kvs, vs, ps, _, _, h => by simp [lookK] at h
  | x :: ks, [], vs, ps, hk, _, _ => by simp at hk
  | x :: ks, (key, w) :: kvs, vs, ps, hk, r, h => by
    simp only [List.map_cons, List.cons.injEq] at hk
    cases r with
    | @cons _ _ d' ds qs rs r1 r2 =>
    simp only [lookK] at h
    by_cases hx : x = k
    · rw [if_pos hx] at h; cases h
      exact ⟨w, qs, valV_pos (by rw [← hx]; exact hk.1), r1, fun q hq => List.mem_append_left _ hq⟩
    · rw [if_neg hx] at h
      obtain ⟨v, qs', a1, a2, a3⟩ := lookK_of hk.2 r2 h
      refine ⟨v, qs', ?_, a2, fun q hq => List.mem_append_right _ (a3 q hq)⟩
      rw [valV_neg]; exact a1
      show ¬ key = kK k
      rw [hk.1]; exact fun z => hx (kK_inj z)
theorem Rp.dic {K : PySem.W.Frag} {S H : Hp} {v : V} {o : Bool} {ks : List KD} {ds : List D} {ps : List Addr} (h : Rp K S H v (.dic o ks ds) ps) (s : Same S H) : ∃ a kvs qs, v = .ref a ∧ H a = some (.dK kvs) ∧ kvs.map (·.1) = ks.map kK ∧ (∀ k ∈ ks, kOk k) ∧ RpAll K S H (kvs.map (·.2)) ds qs ∧ (∀ q ∈ qs, q ∈ ps) := by
  cases h with
  | dicS q k r sh => exact ⟨_, _, [], rfl, s _ _ q, k.1, k.2, r, fun _ z => nomatch z⟩
  | dicO q k r => exact ⟨_, _, _, rfl, q, k.1, k.2, r, fun q hq => List.mem_cons_of_mem _ hq⟩
theorem Rp.dicR {K : PySem.W.Frag} {S H : Hp} {v : V} {d : D} {ks : List KD} {ds : List D} {ps : List Addr} (h : Rp K S H v d ps) (s : Same S H) (hd : (∃ o, d = .dic o ks ds) ∨ d = .dlk ks ds) : ∃ a kvs qs, v = .ref a ∧ Rd H a (.dK kvs) ∧ kvs.map (·.1) = ks.map kK ∧ (∀ k ∈ ks, kOk k) ∧ RpAll K S H (kvs.map (·.2)) ds qs ∧ (∀ q ∈ qs, q ∈ ps) := by
  rcases hd with ⟨o, rfl⟩ | rfl
  · obtain ⟨a, kvs, qs, h1, h2, h3⟩ := h.dic s
    exact ⟨a, kvs, qs, h1, .inl h2, h3⟩
  · cases h with
    | dlk q k r sh => exact ⟨_, _, [], rfl, .inr ⟨_, s _ _ q⟩, k.1, k.2, r, fun _ z => nomatch z⟩
theorem do_dg (hu : X.A.units + 1 < cLine) (hs : NoSl k) (ho : DO cl X W o f) (hk : DO cl X W k g) : DO cl X W (.Subscript o k pos) (e2 fDG f g) := by
  obtain ⟨ta, pa, qa⟩ := ho.pf
  obtain ⟨tb, pb, qb⟩ := hk.pf
  refine ⟨_, pe_dget hu pa pb hs, fun σ ρ S H Q l s z => ?_⟩
  unfold e2 at z
  refine qa σ ρ S H _ l s ?_
  cases h1 : f ρ with
  | no => rw [h1] at z; exact z
  | ex c fs => rw [h1] at z; exact z
  | ok d =>
    rw [h1] at z
    replace z : PostO cl X.K W σ S H ((g ρ).bind fun y => Res.of (fDG d y)) Q := z
    intro v S1 H1 qs g1 rp
    refine qb σ ρ S1 H1 _ (l.mono g1) g1.sh ?_
    cases h2 : g ρ with
    | no => rw [h2] at z; exact z
    | ex c fs => rw [h2] at z; exact fun S' H' cls dd g' x => z S' H' cls dd (g1.trans g') x
    | ok y =>
      rw [h2] at z
      replace z : PostO cl X.K W σ S H (Res.of (fDG d y)) Q := z
      intro u S2 H2 rs g2 rp2
      unfold fDG at z
      cases hy : keyD y with
      | none => simp only [hy, Option.bind_none] at z; exact z.elim
      | some kk =>
        simp only [hy, Option.bind_some] at z
        obtain ⟨rfl, hok⟩ := keyD_rp rp2 hy
        cases hd : dgK kk d with
        | none => rw [hd] at z; exact z.elim
        | some w =>
          rw [hd] at z
          unfold dgK at hd
          split at hd
          · rename_i o' ks vs
            obtain ⟨a, kvs, qs', rfl, hH, k1, k2, ra, _⟩ := (rp.mono g2.ss g2.hh).dicR g2.sh (.inl ⟨_, rfl⟩)
            obtain ⟨v', qs'', b1, b2, _⟩ := lookK_of k1 ra hd
            exact ⟨a, v', rfl, .inl ⟨kvs, kK kk, hH, rfl, b1.symm⟩, z v' S2 H2 qs'' (g1.trans g2) b2⟩
          · rename_i ks vs
            obtain ⟨a, kvs, qs', rfl, hH, k1, k2, ra, _⟩ := (rp.mono g2.ss g2.hh).dicR g2.sh (.inr rfl)
            obtain ⟨v', qs'', b1, b2, _⟩ := lookK_of k1 ra hd
            exact ⟨a, v', rfl, .inl ⟨kvs, kK kk, hH, rfl, b1.symm⟩, z v' S2 H2 qs'' (g1.trans g2) b2⟩
          · cases hd
theorem de_of_do {F : D → D → Option D} (h : DO cl X W e (e2 F f g)) : DE cl X W e (e2 (fun x y => (F x y).bind fun v => if v.sh then some v else none) f g) := by
  obtain ⟨t, p, q⟩ := h.pf
  refine ⟨t, p, fun σ ρ S H Q l s z => q σ ρ S H Q l s ?_⟩
  unfold e2 at z ⊢
  cases h1 : f ρ with
  | no => rw [h1] at z; exact z
  | ex c fs => rw [h1] at z; exact z
  | ok d =>
    rw [h1] at z
    replace z : PostE cl X.K W σ S H ((g ρ).bind fun y => Res.of ((F d y).bind fun v => if v.sh then some v else none)) Q := z
    show PostO cl X.K W σ S H ((g ρ).bind fun y => Res.of (F d y)) Q
    cases h2 : g ρ with
    | no => rw [h2] at z; exact z
    | ex c fs => rw [h2] at z; exact z
    | ok y =>
      rw [h2] at z
      replace z : PostE cl X.K W σ S H (Res.of ((F d y).bind fun v => if v.sh then some v else none)) Q := z
      show PostO cl X.K W σ S H (Res.of (F d y)) Q
      cases h3 : F d y with
      | none => rw [h3] at z; exact z
      | some w =>
        rw [h3] at z
        cases hw : w.sh with
        | false => simp only [Option.bind_some, hw] at z; exact z.elim
        | true =>
          simp only [Option.bind_some, hw, if_true] at z
          intro v S' H' qs g' rp
          have := rp.sh hw
          exact z v S' H' [] g' Fresh.nil (this.2 H')
theorem de_dg (hu : X.A.units + 1 < cLine) (hs : NoSl k) (ho : DO cl X W o f) (hk : DO cl X W k g) : DE cl X W (.Subscript o k pos) (e2 fDGs f g) := de_of_do (do_dg hu hs ho hk)
end
structure DPs (cl : Cl) (X : Cx) (W : WX) (pos : Pos) (keys : List (Option Expr)) (vals : List Expr) (ks : List KD) (fs : List E) : Prop where
  pf : ∃ trs, PPs X pos keys vals trs ∧ ∀ (σ : L2.St) (ρ : Env) (S H : Hp) (Q : List (V × V) → Hp → Prop), Look X.K S H σ ρ → Same S H → PostAE cl X.K W σ S H (eArgs fs ρ) (fun vs H' => Q ((ks.map fun k => kV (kK k)).zip vs) H') → tPairs trs σ H Q
section
variable {cl : Cl} {P : Pins} {X : Cx} {W : WX} {e o k : Expr} {f g : E} {fs : List E} {pos p' : Pos} {keys : List (Option Expr)} {vals : List Expr} {ks : List KD}
theorem dps_nil : DPs cl X W pos [] [] [] [] := ⟨[], pps_nil, fun σ ρ S H Q l s z => z [] S H [] (Grow.refl s) Fresh.nil .nil⟩
theorem dps_cons {x : Str} {j : Nat} {p0 : Pos} (t : Tx) (hx : x = tS t) (he : DE cl X W e f) (hr : DPs cl X W pos keys vals ks fs) : DPs cl X W pos (some (.Constant (.str x) j p0) :: keys) (e :: vals) (.inr t :: ks) (f :: fs) := by
  subst hx
  obtain ⟨te, pe, qe⟩ := he.pf
  obtain ⟨trs, pr, qr⟩ := hr.pf
  refine ⟨_, pps_cons pe_str pe pr, fun σ ρ S H Q l s z => ?_⟩
  refine qe σ ρ S H _ l s ?_
  cases h1 : f ρ with
  | no => simp only [eArgs, h1] at z; exact z
  | ex c fs => simp only [eArgs, h1] at z; exact z
  | ok d =>
    intro v S1 H1 qs g1 f1 rp
    refine qr σ ρ S1 H1 _ (l.mono g1) g1.sh ?_
    replace z : PostAE cl X.K W σ S H ((eArgs fs ρ).bind fun ds => .ok (d :: ds)) (fun vs H' => Q ((List.map (fun k => kV (kK k)) (Sum.inr t :: ks)).zip vs) H') := by
      have e : eArgs (f :: fs) ρ = (eArgs fs ρ).bind fun ds => .ok (d :: ds) := by simp only [eArgs, h1, Res.bind]
      rw [e] at z; exact z
    cases h2 : eArgs fs ρ with
    | no => rw [h2] at z; exact z
    | ex c fs => rw [h2] at z; exact fun S' H' cls dd g' x => z S' H' cls dd (g1.trans g') x
    | ok ds =>
      rw [h2] at z
      intro vs S2 H2 rs g2 f2 ra
      exact z (v :: vs) S2 H2 (qs ++ rs) (g1.trans g2) (f1.app (fun q hq => rp.there q hq) g1.hh g2 f2) (.cons (rp.mono g2.ss g2.hh) ra)
theorem merge_new : ∀ (more kvs : List (Key × V)), ((kvs ++ more).map (·.1)).Nodup → mergeK kvs more = kvs ++ more
  | [], kvs, _ => by simp [mergeK]
  | (k, v) :: more, kvs, h => by
    have h1 : valV kvs k = none := by
      cases hv : valV kvs k with
      | none => rfl
      | some w =>
        exfalso
        have hs : (kvs.any fun kv => decide (kv.1 = k)) = true := by rw [valV_any, hv]; rfl
        obtain ⟨kv, hm, hk⟩ := List.any_eq_true.mp hs
        simp only [decide_eq_true_eq] at hk
        rw [List.map_append, List.nodup_append] at h
        exact h.2.2 kv.1 (List.mem_map_of_mem hm) k (by simp) hk
    show mergeK (putK kvs k v) more = _
    rw [putK_new v h1, merge_new more (kvs ++ [(k, v)]) (by simpa using h)]
    simp
theorem zip_keys : ∀ (ks : List KD) (vs : List V), (ks.map fun k => kV (kK k)).zip vs = ((ks.map kK).zip vs).map fun kv => (kV kv.1, kv.2)
  | [], vs => by simp
  | a :: ks, [] => by simp
  | a :: ks, v :: vs => by simp only [List.map_cons, List.zip_cons_cons, zip_keys ks vs]
theorem de_disp (h : DPs cl X W pos keys vals ks fs) (hnd : ks.Nodup) (hok : ∀ k ∈ ks, kOk k) (hlf : ks.length = fs.length) (hall : keys.all (·.isSome) = true) (hl : keys.length = vals.length) (h0 : keys ≠ []) (h15 : keys.length ≤ 15) (hk15 : ks.length ≤ 15) : DE cl X W (.Dict keys vals pos) (eDict ks fs) := by
  obtain ⟨trs, pr, qr⟩ := h.pf
  refine ⟨_, pe_disp pr hall hl h0 h15, fun σ ρ S H Q l s z => ?_⟩
  intro p hp
  have s01 : Same H (upd H p (.dK [])) := same_new hp
  have gr0 : Grow S H S (upd H p (.dK [])) := ⟨s01, Same.refl S, s.trans s01, fun a o h1 h2 => by rw [h1] at h2; cases h2⟩
  refine qr σ ρ S _ _ (l.mono gr0) gr0.sh ?_
  unfold eDict at z
  cases h1 : eArgs fs ρ with
  | no => rw [h1] at z; exact z
  | ex c fs => rw [h1] at z; exact fun S' H' cls dd g' x => z S' H' cls dd (gr0.trans g') x
  | ok ds =>
    rw [h1] at z
    replace z : PostE cl X.K W σ S H (.ok (.dic true ks ds)) Q := z
    intro vs S1 H1 qs g1 f1 ra
    have hpH : H1 p = some (.dK []) := g1.hh _ _ upd_same
    have hlen : ks.length = vs.length := by rw [ra.length, eArgs_len h1]; exact hlf
    refine ⟨hpH, (ks.map kK).zip vs, ?_, by simp; omega, ?_⟩
    · exact zip_keys ks vs
    · have hk1 : ((ks.map kK).zip vs).map (·.1) = ks.map kK := List.map_fst_zip (by simp; omega)
      have hk2 : ((ks.map kK).zip vs).map (·.2) = vs := List.map_snd_zip (by simp; omega)
      have hnd2 : (ks.map kK).Nodup := by
        rw [List.nodup_iff_pairwise_ne, List.pairwise_map]
        exact hnd.imp fun h z => h (kK_inj z)
      rw [merge_new _ [] (by simpa [hk1] using hnd2), List.nil_append]
      have hpq : p ∉ qs := fun z => by
        have := (f1.2 p z).1
        rw [upd_same] at this; cases this
      have hS1 : S1 p = none := by
        cases e : S1 p with
        | none => rfl
        | some u =>
          have h3 : S p = none := none_back s hp
          have := g1.nw p u e h3
          rw [upd_same] at this; cases this
      refine z (.ref p) S1 _ (p :: qs) ⟨?_, g1.ss, ?_, ?_⟩ ⟨List.nodup_cons.mpr ⟨hpq, f1.1⟩, fun q hq => ?_⟩ (.dicO upd_same ⟨hk1, hok⟩ (by rw [hk2]; exact ra.set hpq))
      · exact same_set (fun b o hb => g1.hh b o (s01 b o hb)) hp
      · exact fun b o hb => by
          rw [upd_ne (fun z => by rw [z, hS1] at hb; cases hb)]; exact g1.sh b o hb
      · exact fun a o ha hn => none_back s01 (g1.nw a o ha hn)
      · rcases List.mem_cons.mp hq with z | z
        · rw [z]; exact ⟨hp, hS1⟩
        · exact ⟨none_back s01 (f1.2 q z).1, (f1.2 q z).2⟩
end
section
variable {cl : Cl} {P : Pins} {X : Cx} {W : WX} {e o : Expr} {f : E} {pos p' : Pos} {i : Nat} {x : Str}
end
theorem kOks_of {ks : List KD} (h : (ks.all fun k => match k with | .inl _ => true | .inr s => s.all fun c => decide (c < 0x110000)) = true) : ∀ k ∈ ks, kOk k := fun k hk => by
  have := List.all_eq_true.mp h k hk
  cases k with
  | inl i => trivial
  | inr s => simpa [kOk] using this
theorem hu1 {k : Nat} {A : Around} (hr : Room k A) : A.units + 1 < cLine := by have := hr.un; omega
end G
set_option maxHeartbeats 1000000
namespace L2
open PySem PySem.Spec PyProof.Rows
section
variable {X : Cx} {CX : CXT} {k : Nat} {f C : Addr} {fd : FuncData} {ps : List Str} {sp : Sp} {e : Expr} {es : List Expr} {t : TA} {E : L2.St → XK} {p1 p2 pos : Pos} {c m : Str} {pl : Sem Bool}
end
end L2
namespace G
open PySem PySem.Spec PyProof.Rows L2
section
variable {cl : Cl} {P : Pins} {X : Cx} {W : WX} {e o : Expr} {es : List Expr} {f : E} {m : M} {fs : List E} {p p1 p2 pos : Pos} {i k n : Nat} {fA : Addr} {fd : FuncData} {ps : List Str} {x : Str}
theorem de_makeD {c : String} {den : List D → ResI} {dvs : List V} {ds0 : List Value} (dds : List D) (hM : mkB X.K c fA = true) (F : FnOk X.prog X.w X.K X.mg X.base (L2.CX X.prog X.w) k fA fd ps (spI cl X.K n den)) (hr : Room (k + 1) X.A) (hg : Gl X x) (hm : X.mg x = some (.ref (clK X.K c))) (hb : Binds X.K fd ps ds0) (hd : Vals dvs ds0) (hdd : ∀ S H, RpAll X.K S H dvs dds [])
    (ha : DA cl X W (e :: es) fs) (hn : fs.length + dds.length + 1 = n := by rfl) (hdb : (x == ("__debug__" : Str)) = false := by decide) (he : starEach (e :: es) X.env = (false, eval e X.env) :: starEach es X.env := by rfl) (hpl : (backTo pos (starEach es X.env)).any (·.1) = false := by rfl) :
    DE cl X W (.Call (.Name x p) (e :: es) [] pos) (eMakeD c den dds fs) := by
  obtain ⟨t, pt, q⟩ := ha.pf
  refine ⟨_, pe_make (mkB_ok hM) F hr hg hm hb hd passL pt hdb he hpl, fun σ ρ S H Q l s z => q σ ρ S H _ l s ?_⟩
  unfold eMakeD at z
  cases ka : eArgs fs ρ with
  | no => rw [ka] at z; exact z
  | ex c' fs' => rw [ka] at z; exact z
  | ok ds =>
    rw [ka] at z
    cases hsh : shs ds with
    | false => simp only [Res.bind, hsh] at z; exact z.elim
    | true =>
      simp only [Res.bind, hsh, if_true] at z
      intro vs S1 H1 qs g1 ra a dx hax hdx hne
      obtain ⟨e0, ra0⟩ := ra.sh hsh
      have hH0 : upd H1 dx (.own a) a = none := by rw [upd_ne (fun z => hne z.symm)]; exact hax
      have s01 : Same H1 (upd H1 dx (.own a)) := same_new hdx
      refine ⟨S1, upd H1 dx (.own a), .ref a, vs ++ dvs, .ins true c [] [] :: (ds ++ dds), [a] ++ ([] ++ []), rfl, g1.sh.trans s01, same_new hH0, .cons (.insO (fv := []) upd_same ⟨rfl, by simp⟩ .nil) ((ra0 _).append (hdd _ _)), by simp, fun p hp => ?_, by simp [eArgs_len ka]; omega, ?_⟩
      · have : p = a := by simpa using hp
        subst this
        exact ⟨hH0, none_back g1.sh hax⟩
      · cases kd : den (.ins true c [] [] :: (ds ++ dds)) with
        | no => simp only [kd] at z; exact z
        | ex c' fs' d0 => simp only [kd] at z; exact z.elim
        | ok d d0 =>
          cases d with
          | non =>
            simp only [kd] at z
            intro v S' H' ys zs g r0 rv nn ff
            cases rv
            refine ⟨rfl, z (.ref a) S' H' zs ⟨g1.hh.trans (s01.trans g.hh), g1.ss.trans g.ss, g.sh, fun b u k1 k2 => ?_⟩ ⟨(List.nodup_append.mp nn).1, fun b hb => ?_⟩ r0⟩
            · cases k3 : S1 b with
              | none => exact none_back (g1.hh.trans s01) (g.nw b u k1 k3)
              | some w => exact g1.nw b w k3 k2
            · have := ff b (List.mem_append_left _ hb)
              exact ⟨none_back (g1.hh.trans s01) this.1, this.2⟩
          | _ => simp only [kd] at z; exact z.elim
end
theorem fn_okID {cl : Cl} {P : Program} {w : World} {K : PySem.W.Frag} {mg : Str → Option Value} {base : Heap} {x qual : Str} {st : Stmt} {fA : Addr} {fd : FuncData} {N ps : List Str} {k : Nat} {body : Sd} {dvs : List V} (Fn : FunD K x qual (defArgs st) (defBody st) (defScope st) dvs [] fA fd) (Sc : FnScope N ps (defScope st))
    (hbody : ∀ (v0 : V) (cdv : Value) (A : Around) (outer : List PySem.Env) (s : Shared) (H : Hp) (E : XK), Room k (A.deeper (PyProof.Rows.envOfC qual (defScope st) s.heap.objs.size fA cdv)) →
      DSs cl (P0 v0) (cxOf (L2.CX P w) P w K mg base N qual (defScope st) fA cdv A outer s H E) (fun cls d _ H => E cls d H) (defBody st) body) :
    FnOk P w K mg base (L2.CX P w) (k + 1) fA fd ps (spI cl K ps.length (runI N.length body)) := by
  refine Fn.ok Sc (fun vs H Q E h => ?_) (fun cdv A outer s H vs Q E hr h => ?_)
  · obtain ⟨S, H0, v0, ws, ds, qs, _, _, _, ra, _, _, hl, _⟩ := h
    rw [ra.length, hl]
  · obtain ⟨S, H0, v0, ws, ds, qs, rfl, s1, s2, ra, nd, fr, hl, hd⟩ := h
    obtain ⟨t, pt, q⟩ := (hbody v0 cdv A outer s H E hr).pf
    have pn : ∀ i v, P0 v0 i = some v → (L2.start N (v0 :: ws))[i]? = some (some v) := fun i v hv => by
      cases i with
      | zero => cases hv; rfl
      | succ i => cases hv
    have pull : ∀ {S' H' σ ρ d0}, Rl K (P0 v0) S H0 S' H' σ ρ → ρ[0]? = some (some d0) → ∃ zs ys, Rp K S' H' v0 d0 zs ∧ Its K S' H' σ (ρ.set 0 none) ys ∧ zs.Nodup ∧ ∀ p ∈ zs, H0 p = none ∧ S' p = none := fun {S' H' σ ρ d0} R h0 => by
      obtain ⟨ps2, it, nd2, fr2⟩ := R.it
      obtain ⟨v', zs, ys, k1, k2, k3, k4, k5⟩ := it.pick 0 h0
      have := R.pn 0 v0 rfl
      rw [k1] at this; cases this
      exact ⟨zs, ys, k2, k3, (k5 nd2).2.1, fun p hp => fr2 p ((k4 p).mpr (.inr hp))⟩
    refine ⟨t, pt, q S H0 S H (L2.start N (v0 :: ws)) (ds.map some ++ List.replicate (N.length - ds.length) none) _ (rl_begin s1 s2 ra nd fr pn) ?_⟩
    unfold runI at hd
    cases k1 : body (ds.map some ++ List.replicate (N.length - ds.length) none) with
    | no => rw [k1] at hd; exact hd
    | bk ρ => rw [k1] at hd; exact hd.elim
    | ct ρ => rw [k1] at hd; exact hd.elim
    | nx ρ =>
      rw [k1] at hd
      intro S' H' σ R
      have hne : at0 ρ (fun d0 => .ok .non d0) ≠ .no := fun z => by simp only [endI, z] at hd
      obtain ⟨d0, h0, e0⟩ := at0_ok hne
      simp only [endI, e0] at hd
      obtain ⟨zs, ys, r0, _, nz, fz⟩ := pull R h0
      exact hd .non S' H' [] zs R.gr r0 .non (by simpa using nz) (by simpa using fz)
    | xc c fs ρ =>
      rw [k1] at hd
      intro S' H' σ cls dd R xr
      have hne : at0 ρ (fun d0 => .ex c fs d0) ≠ .no := fun z => by simp only [endI, z] at hd
      obtain ⟨d0, h0, e0⟩ := at0_ok hne
      simp only [endI, e0] at hd
      obtain ⟨zs, ys, r0, _, nz, fz⟩ := pull R h0
      exact hd S' H' cls dd zs R.gr xr r0 nz fz
    | rt d ρ =>
      rw [k1] at hd
      intro v S' H' σ R
      have hne : at0 ρ (fun d0 => .ok d d0) ≠ .no := fun z => by simp only [endI, z] at hd
      obtain ⟨d0, h0, e0⟩ := at0_ok hne
      simp only [endI, e0] at hd
      have hl2 : σ.length = ρ.length := by simpa using R.look.1
      have h0l : 0 < ρ.length := (List.getElem?_eq_some_iff.mp h0).1
      have pn2 : ∀ i v, P0 v0 i = some v → σ[i]? = some (some v) := fun i w hw => by
        have := R.pn i w hw
        cases i with
        | zero => rwa [List.getElem?_append_left (by omega)] at this
        | succ i => cases hw
      obtain ⟨as, bs, it, rv, nab, fab, R1⟩ := R.drop pn2
      obtain ⟨v', zs, ys, k1, k2, k3, k4, k5⟩ := it.pick 0 h0
      have := pn2 0 v0 rfl
      rw [k1] at this; cases this
      obtain ⟨m1, m2, m3⟩ := List.nodup_append.mp nab
      refine hd v S' H' bs zs R.gr k2 rv (List.nodup_append.mpr ⟨(k5 m1).2.1, m2, fun a ha b hb z => m3 a ((k4 a).mpr (.inr ha)) b hb z⟩) fun p hp => ?_
      rcases List.mem_append.mp hp with hp | hp
      · exact fab p (List.mem_append_left _ ((k4 p).mpr (.inr hp)))
      · exact fab p (List.mem_append_right _ hp)
def insB (K : PySem.W.Frag) (c : String) : Bool := clsB K c && ((PySem.W.findIn K (.ref (clK K c)) "__class__" == some (some (.builtin "object.__class__"))) && ((PySem.W.specialIn K (.builtin "object.__class__") "__get__" == some (some (.builtin "getset_descriptor.__get__"))) && ((PySem.W.takesIn K (.builtin "object.__class__") == some true) && (PySem.W.mroIn K (clK K c) (.type "object") == some true))))
def iiB (K : PySem.W.Frag) (t : String) (tab : List (String × Bool)) : Bool := (tab.all fun x => insB K x.1 && (PySem.W.kitOne K (.ref (clK K x.1)) (.ref (clK K t)) == some x.2)) && (["NoneType", "bool", "int", "str", "list", "tuple", "dict"].all fun n => PySem.W.kitOne K (.type n) (.ref (clK K t)) == some false)
theorem ii_ty {K : PySem.W.Frag} {t : String} {tab : List (String × Bool)} (h : iiB K t tab = true) {n : String} (hn : n ∈ ["NoneType", "bool", "int", "str", "list", "tuple", "dict"]) : PySem.W.kitOne K (.type n) (.ref (clK K t)) = some false := by
  simp only [iiB, Bool.and_eq_true] at h
  have := List.all_eq_true.mp h.2 n hn
  exact beq_iff_eq.mp this
theorem lookup_mem {c : String} {b : Bool} : ∀ {tab : List (String × Bool)}, tab.lookup c = some b → (c, b) ∈ tab
  | [], h => by simp at h
  | (d, b') :: tab, h => by
    rw [List.lookup_cons] at h
    split at h
    · rename_i e
      cases h
      rw [beq_iff_eq] at e
      subst e; exact List.mem_cons_self ..
    · exact List.mem_cons_of_mem _ (lookup_mem h)
theorem ii_ins {K : PySem.W.Frag} {t c : String} {b : Bool} {tab : List (String × Bool)} (h : iiB K t tab = true) (hc : tab.lookup c = some b) : insB K c = true ∧ PySem.W.kitOne K (.ref (clK K c)) (.ref (clK K t)) = some b := by
  simp only [iiB, Bool.and_eq_true] at h
  have := List.all_eq_true.mp h.1 _ (lookup_mem hc)
  simp only [Bool.and_eq_true, beq_iff_eq] at this
  exact this
theorem ins_ty {K : PySem.W.Frag} {c : String} (h : insB K c = true) {H : Hp} {a dx : Addr} {fv : List (Str × V)} (ha : H a = some (.ins (clK K c) dx fv)) : TyX K H (.ref a) (.ref (clK K c)) := by
  simp only [insB, Bool.and_eq_true, beq_iff_eq] at h
  obtain ⟨h1, h2, h3, h4, h5⟩ := h
  exact .base (.ins ha (clsB_ok h1) h2 h3 h4 h5)
section
variable {cl : Cl} {X : Cx} {W : WX} {a : Expr} {f : E} {p pos py : Pos} {x : Str}
theorem o_isI {t : String} {tab : List (String × Bool)} (h : iiB X.K t tab = true) : Op1 X (fun v => rIsi X.K [v, .ref (clK X.K t)]) (fIsI tab) := by
  intro S H x dx d ps Q s rx e k
  have fin : ∀ {v : V} {n : String}, x = v → TyX X.K H v (.type n) → n ∈ ["NoneType", "bool", "int", "str", "list", "tuple", "dict"] → D.bl false = d → rIsi X.K [x, .ref (clK X.K t)] H Q := by
    intro v n ex ty hk ed
    subst ex; subst ed
    exact ⟨_, _, _, _, false, rfl, .own _, ty, ii_ty h hk, newV s (.bl _) k⟩
  cases rx with
  | non => exact fin rfl (.base .non) (n := "NoneType") (by simp) (by simpa [fIsI] using e)
  | bl b => exact fin rfl (.base (.bl b)) (n := "bool") (by simp) (by simpa [fIsI] using e)
  | int b => exact fin rfl (.base (.int b)) (n := "int") (by simp) (by simpa [fIsI] using e)
  | str b hb => exact fin rfl (.base (.str _)) (n := "str") (by simp) (by simpa [fIsI] using e)
  | scr ns q => simp [fIsI] at e
  | @xcp a c fs vs dd q hx =>
    simp only [fIsI] at e
    have : fs.contains "!" = true := by rcases hx with ⟨rfl, _⟩ | ⟨_, _, _, _, rfl, _⟩ <;> simp
    rw [this] at e; simp at e
  | @insS a dx' c fs fv ds q k2 r z =>
    simp only [fIsI] at e
    have hx : fs.contains "!" = false := by simpa using k2.2
    rw [hx] at e
    simp only [Bool.false_eq_true, if_false] at e
    cases hc : tab.lookup c with
    | none => rw [hc] at e; cases e
    | some b =>
      rw [hc] at e; cases e
      obtain ⟨i1, i2⟩ := ii_ins h hc
      exact ⟨_, _, _, _, b, rfl, .own _, ins_ty i1 (s _ _ q), i2, newV s (.bl _) k⟩
  | @insO a dx' c fs fv ds ps q k2 r =>
    simp only [fIsI] at e
    have hx : fs.contains "!" = false := by simpa using k2.2
    rw [hx] at e
    simp only [Bool.false_eq_true, if_false] at e
    cases hc : tab.lookup c with
    | none => rw [hc] at e; cases e
    | some b =>
      rw [hc] at e; cases e
      obtain ⟨i1, i2⟩ := ii_ins h hc
      exact ⟨_, _, _, _, b, rfl, .own _, ins_ty i1 q, i2, newV s (.bl _) k⟩
  | @dicS a kvs ks ds0 q k2 r z => exact fin rfl (.base (.dK (s _ _ q))) (n := "dict") (by simp) (by simpa [fIsI] using e)
  | @dlk a kvs ks ds0 ob q k2 r z => exact fin rfl (.fDict (s _ _ q)) (n := "dict") (by simp) (by simpa [fIsI] using e)
  | @dicO a kvs ks ds0 ps q k2 r => exact fin rfl (.base (.dK q)) (n := "dict") (by simp) (by simpa [fIsI] using e)
  | lstS q r z => exact fin rfl (.base (.lst (s _ _ q))) (n := "list") (by simp) (by simpa [fIsI] using e)
  | @lstO a vs ds0 ps q r => exact fin rfl (.base (.lst q)) (n := "list") (by simp) (by simpa [fIsI] using e)
  | tupS q r z =>
    have q' := sqt_mono s q
    rcases q' with (q' | ⟨ob, q'⟩) | ⟨ob, its, n, q1, q2, _⟩
    · exact fin rfl (.base (.tup q')) (n := "tuple") (by simp) (by simpa [fIsI] using e)
    · exact fin rfl (.fTuple q') (n := "tuple") (by simp) (by simpa [fIsI] using e)
    · exact fin rfl (.kTuple q1 q2) (n := "tuple") (by simp) (by simpa [fIsI] using e)
  | @tupO a vs ds0 ps q r => exact fin rfl (.base (.tup q)) (n := "tuple") (by simp) (by simpa [fIsI] using e)
theorem de_isI {t : String} {tab : List (String × Bool)} (h : iiB X.K t tab = true) (hgt : Gl X x) (hmt : X.mg x = some (.ref (clK X.K t))) (hg : Gl X "isinstance") (hm : X.mg "isinstance" = none) (ha : DO cl X W a f) (hdb : (x == ("__debug__" : Str)) = false := by decide)
    (hs : starEach [a, .Name x py] X.env = (false, eval a X.env) :: starEach [.Name x py] X.env := by rfl) (hs2 : starEach [.Name x py] X.env = [(false, eval (.Name x py) X.env)] := by rfl) (hpl : (backTo pos (starEach [.Name x py] X.env)).any (·.1) = false := by rfl) : DE cl X W (.Call (.Name "isinstance" p) [a, .Name x py] [] pos) (e1 (fIsI tab) f) :=
  de_1 (r := fun v => rIsi X.K [v, .ref (clK X.K t)]) (fun ta pa => pe_callB call_isi hg hm (by decide +kernel) (pa_cons pa (pa_cons (pe_glob hgt hmt (v := .ref (clK X.K t)) rfl hdb) pa_nil hs2) hs) (by decide) (by decide) hs hpl) (o_isI h) ha
end
def dflB (K : PySem.W.Frag) (T : Addr) (n : Nat) : Bool := match K.lookup T with
  | some o => (match o.data with
    | .seq its _ => its.toList == List.replicate n Value.none
    | _ => false)
  | none => false
theorem vals_non : ∀ n : Nat, Vals (List.replicate n V.non) (List.replicate n Value.none)
  | 0 => .nil
  | n + 1 => .cons rfl (vals_non n)
theorem funD_mk {K : PySem.W.Frag} {x qual : Str} {st : Stmt} {f T : Addr} {oc : Value} {od an : Option Addr} {osl : Array (Option Value)} {kV doc pm cdv ct : Value} {n : Nat} (l : K.lookup f = some ⟨oc, od, .func (PySem.W.fnOf x qual (defArgs st) (defBody st) (defScope st) (.ref T) kV doc pm an cdv ct), osl⟩)
    (c : PySem.W.codeIn K cdv qual = true) (k : PySem.W.keepIn K (.ref f) = true) (h : dflB K T (n + 1) = true) : FunD K x qual (defArgs st) (defBody st) (defScope st) (List.replicate (n + 1) V.non) [] f (PySem.W.fnOf x qual (defArgs st) (defBody st) (defScope st) (.ref T) kV doc pm an cdv ct) := by
  refine ⟨⟨oc, od, .ref T, kV, doc, pm, an, cdv, ct, osl, rfl, l, c, .inr ⟨by simp [List.replicate_succ], ?_⟩, .inl rfl⟩, k⟩
  unfold dflB at h
  split at h
  · rename_i o ho
    split at h
    · rename_i its m hd
      refine ⟨T, o, List.replicate (n + 1) Value.none, m, rfl, ho, ?_, vals_non _⟩
      rw [hd, ← beq_iff_eq.mp h]
    · cases h
  · cases h
end G
namespace TxS
open PySem PySem.Spec PyProof.Rows L2
def ks (e : Int × Value) : Str := match e.2 with | .str k _ => k | _ => Str.empty
def Gd (w : World) (e : Int × Value) : Prop := ∃ k tk, e.2 = Value.str k tk ∧ e.1 = hashStr w k
def TSet (w : World) (h : Heap) (a : Addr) (l : List Str) : Prop :=
  ∃ o es ep t, h.get? a = some o ∧ o.ExactSet ∧ o.data = .set es ep t ∧ (∀ e ∈ es.toList, Gd w e) ∧ (es.toList.map ks).Perm l ∧ l.Nodup ∧
    es.size < scanBound ∧ t.fits es.size = true ∧ Ris t.place.toList ∧ (w.params.followText "set-order" = true ∨ t.led = true)
section
variable {P : Program} {w : World} {h h' : Heap} {a : Addr} {l : List Str}
theorem TSet.at (R : TSet w h a l) (k : ∀ o, h.get? a = some o → h'.get? a = some o) : TSet w h' a l := by
  obtain ⟨o, es, ep, t, ho, r⟩ := R
  exact ⟨o, es, ep, t, k o ho, r⟩
theorem gd_elems {l : List (Int × Value)} (g : ∀ e ∈ l, Gd w e) : ElemsOf (PySem.strKind P w) l := fun e he => by
  obtain ⟨k, tk, h1, h2⟩ := g e he
  exact ⟨⟨k, by rw [h1]; exact PySem.strKind_is P w k tk, h2⟩, by rw [h1] <;> rfl⟩
theorem gd_is {e : Int × Value} (g : Gd w e) (k : Str) : (PySem.strKind P w).is k e.2 = true ↔ ks e = k := by
  obtain ⟨k0, tk, h1, _⟩ := g
  unfold ks
  rw [h1]
  constructor
  · intro q
    obtain ⟨t, ev⟩ := Value.isStrOf_shape (x := k) (v := .str k0 tk) q
    cases ev
    rfl
  · intro q
    have q' : k0 = k := q
    rw [q']
    exact PySem.strKind_is P w k tk
end
section
variable {P : Program} {w : World} {A : Around} {E : Value → Shared → Prop} {s : Shared} {a : Addr} {l : List Str}
theorem laid {g : Bool → Sem Unit} (hg : ∀ (b : Bool) (s₁ : Shared) (Q' : Unit → Shared → Prop), Q' () s₁ → wpAny (model P w) A (g b) Q' E s₁)
    {o : Obj} {es : Array (Int × Value)} {ep : Nat} {t : SetTable} (ho : s.heap.get? a = some o) (hex : o.ExactSet) (hd : o.data = .set es ep t)
    {es1 : Array (Int × Value)} {t2 : SetTable} (g1 : ∀ e ∈ es1.toList, Gd w e) (p1 : (es1.toList.map ks).Perm l) (nd1 : l.Nodup)
    (hb1 : es1.size < scanBound) (hf2 : t2.fits es1.size = true) (hr : Ris t2.place.toList) (hl : w.params.followText "set-order" = true ∨ t2.led = true) {wd : Bool} {R : Option Bool → Shared → Prop}
    (hR : ∀ h', Heap.SameBut a s.heap h' → TSet w h' a l → R (some true) { s with heap := h' }) :
    wpAny (model P w) A (do
        storeSet a es1 t2
        if (!wd && t2.tooFull) = true then do
            g (relayAll t2 es1 (SetTable.grown es1.size)).2.2
            storeSet a (relayAll t2 es1 (SetTable.grown es1.size)).1 (relayAll t2 es1 (SetTable.grown es1.size)).2.1
            pure (some true)
          else pure (some true)) R E s := by
  refine wpAny_bind (wpAny_storeSet_of ho hd ?_ (fits_of_scanBound hb1))
  have ho1 := store_at (es' := es1) (t' := t2) ho hd
  have sb1 := Heap.SameBut.update s.heap a (Obj.putSet es1 t2)
  split
  · have pm := relayAll_perm t2 es1 (SetTable.grown es1.size)
    have hf3 := relayAll_fits t2 es1 (SetTable.grown es1.size)
    have hr3 := relayAll_ris t2 es1 (SetTable.grown es1.size)
    have hl3 := relayAll_led t2 es1 (SetTable.grown es1.size)
    generalize relayAll t2 es1 (SetTable.grown es1.size) = Z at pm hf3 hr3 hl3 ⊢
    obtain ⟨es2, t3, gave⟩ := Z
    dsimp only at pm hf3 hr3 hl3 ⊢
    have hsz : es2.size = es1.size := by rw [← Array.length_toList, pm.length_eq, Array.length_toList]
    have hb2 : es2.size < scanBound := by rw [hsz]; exact hb1
    refine wpAny_bind (hg _ _ _ ?_)
    refine wpAny_bind (wpAny_storeSet_of ho1 rfl ?_ (fits_of_scanBound hb2))
    refine wpAny_pure (hR _ (sb1.trans (Heap.SameBut.update _ a _)) ?_)
    exact ⟨_, es2, _, t3, store_at (es' := es2) (t' := t3) ho1 rfl, hex, rfl, fun e he => g1 e (pm.mem_iff.mp he), (pm.map ks).trans p1, nd1, hb2, hf3, hr3, hl.imp id fun z => by rw [hl3]; exact z⟩
  · exact wpAny_pure (hR _ sb1 ⟨_, es1, _, t2, ho1, hex, rfl, g1, p1, nd1, hb1, hf2, hr, hl⟩)
theorem add_hashed {k : Str} {tk : Tok} {Q : Bool → Shared → Prop} (R : TSet w s.heap a l) (room : l.length + 1 < scanBound)
    (h1 : k ∈ l → Q false s) (h2 : k ∉ l → ∀ h', Heap.SameBut a s.heap h' → TSet w h' a (k :: l) → Q true { s with heap := h' }) :
    wpAny (model P w) A (setAddHashed a (.str k tk) ((PySem.strKind P w).hash k)) Q E s := by
  obtain ⟨o, es, ep, t, ho, hex, hd, g, pl, nd, hb, hf, hr, hl⟩ := R
  have hkey : (PySem.strKind P w).is k (.str k tk) = true := PySem.strKind_is P w k tk
  have hsc : (Value.str k tk).scannable = true := rfl
  have hel : ElemsOf (PySem.strKind P w) es.toList := gd_elems g
  unfold setAddHashed setAddHashedIn
  refine wpAny_holding (wpAny_bind (wpAny_setState_of ho hd hf ?_))
  dsimp only
  rw [byScan_of hsc hb hel]
  simp only [↓reduceIte]
  unfold setAddByScan
  refine wpAny_bind ?_
  refine wpAny_bind (wpAny_rule ?_)
  refine wpAny_bind (wpAny_setScan_of hkey ho hd hf hel ?_)
  cases hfi : List.findIdx? (fun e => (PySem.strKind P w).is k e.2) es.toList with
  | some j =>
    dsimp only
    obtain ⟨hj, pj, _⟩ := List.findIdx?_eq_some_iff_getElem.mp hfi
    have hm : k ∈ l := pl.mem_iff.mp (List.mem_map.mpr ⟨es.toList[j], List.getElem_mem hj, (gd_is (P := P) (g _ (List.getElem_mem hj)) k).1 pj⟩)
    exact wpAny_pure (wpAny_pure (h1 hm))
  | none =>
    dsimp only
    have hnk : k ∉ l := fun z => by
      obtain ⟨e, he, q⟩ := List.mem_map.mp (pl.mem_iff.mpr z)
      have c := List.findIdx?_eq_none_iff.mp hfi e he
      rw [(gd_is (P := P) (g e he) k).2 q] at c
      cases c
    have hgw : ∀ (b : Bool) {s₁ : Shared} {Q' : Unit → Shared → Prop}, Q' () s₁ → wpAny (model P w) A (match b with | true => rule "set.scan.the-table-gave-way" | false => pure ()) Q' E s₁ :=
      fun b s₁ Q' q => by cases b <;> first | exact wpAny_pure q | exact wpAny_rule q
    have pm := layNew_perm t es ((PySem.strKind P w).hash k) (.str k tk)
    have hf1 := layNew_fits t es ((PySem.strKind P w).hash k) (.str k tk)
    have hr1 := layNew_ris t es ((PySem.strKind P w).hash k) (.str k tk) hr
    have hl1 := layNew_led t es ((PySem.strKind P w).hash k) (.str k tk)
    generalize layNew t es ((PySem.strKind P w).hash k) (.str k tk) = Z at pm hf1 hr1 hl1 ⊢
    obtain ⟨es1, t1, wasDummy, gave⟩ := Z
    dsimp only at pm hf1 hr1 hl1 ⊢
    rw [Array.toList_push] at pm
    have pc : es1.toList.Perm (((PySem.strKind P w).hash k, Value.str k tk) :: es.toList) := pm.trans (List.perm_append_singleton _ _)
    have p1 : (es1.toList.map ks).Perm (k :: l) := (pc.map ks).trans (List.Perm.cons k pl)
    have g1 : ∀ e ∈ es1.toList, Gd w e := fun e he => by
      rcases List.mem_cons.mp (pc.mem_iff.mp he) with z | z
      · rw [z]; exact ⟨k, tk, rfl, rfl⟩
      · exact g e z
    have nd1 : (k :: l).Nodup := List.nodup_cons.mpr ⟨hnk, nd⟩
    have hsz : es1.size = l.length + 1 := by rw [← Array.length_toList, ← List.length_map (f := ks), p1.length_eq, List.length_cons]
    have hb1 : es1.size < scanBound := by rw [hsz]; exact room
    have hled : w.params.followText "set-order" = true ∨ t1.led = true := hl.imp id fun z => by rw [hl1]; exact z
    have fin := h2 hnk
    refine wpAny_bind (hgw _ ?_)
    split
    · refine wpAny_bind ?_
      rw [hashByValue_scannable 8 hsc]
      refine wpAny_pure ?_
      refine laid ?_ ho hex hd g1 p1 nd1 hb1 ?_ ?_ ?_ ?_
      · intro b s₁ Q' q; cases b <;> first | exact wpAny_pure q | exact wpAny_rule q
      · first | (split <;> first | exact hf1 | exact SetTable.fits_plain_off hf1) | exact hf1
      · first | (split <;> exact hr1) | exact hr1
      · first | (split <;> exact hled) | exact hled
      · intro h' sb r; dsimp only; exact wpAny_pure (fin h' sb r)
    · refine wpAny_bind (wpAny_pure ?_)
      simp only [↓reduceIte]
      refine laid ?_ ho hex hd g1 p1 nd1 hb1 hf1 hr1 hled ?_
      · intro b s₁ Q' q; cases b <;> first | exact wpAny_pure q | exact wpAny_rule q
      · intro h' sb r; dsimp only; exact wpAny_pure (fin h' sb r)
end
def come : List Str → List Str → List Str
  | l, [] => l
  | l, x :: xs => come (if x ∈ l then l else x :: l) xs
theorem fresh {w : World} {h : Heap} {a : Addr} (ho : h.get? a = some { cls := .type "set", dict := none, data := .set #[] 0 (.fresh 0 0 (!w.params.followText "set-order")) }) : TSet w h a [] :=
  ⟨_, #[], 0, _, ho, ⟨rfl, rfl, rfl⟩, rfl, (fun e he => by simp at he), .refl _, List.nodup_nil, (by decide), (by rfl), List.Pairwise.nil, by
    show _ ∨ (!w.params.followText "set-order") = true
    cases w.params.followText "set-order"
    · exact .inr rfl
    · exact .inl rfl⟩
section
variable {P : Program} {w : World} {A : Around} {E : Value → Shared → Prop} {s : Shared}
theorem loop {I : Addr} {fp wr : List Addr} {G : Array GenState → Array GenState → Prop} {n : Nat} {Pv : Nat → Value → Prop} {St : Nat → Shared → Prop} {R : Result → Shared → Prop}
    (W : WalksS P w A.in1 I fp wr G n Pv St) (S : Addr) (hSf : S ∉ fp) (xs : List Str) (hn : n = xs.length) (hb : xs.length + 1 < scanBound) (hval : ∀ i v, Pv i v → ∃ k t, xs[i]? = some k ∧ v = .str k t) :
    ∀ (ys : List Str) (i : Nat) (s : Shared) (l : List Str), xs.drop i = ys → i ≤ n → l.length ≤ i → St i s → TSet w s.heap S l →
      (∀ s', Moved (S :: wr) G s s' → TSet w s'.heap S (come l ys) → R (.ok (.ret .none)) s') →
      codeAny (model P w) A (.builtin "set.update.loop" ⟨[.ref S, .ref I], []⟩) R s := by
  have hSw : S ∉ wr := fun h => hSf (W.sub _ h)
  have hsub : ∀ b ∈ wr, b ∈ S :: wr := fun b hb => List.mem_cons_of_mem _ hb
  intro ys
  induction ys with
  | nil =>
    intro i s l hd hi hl hst hS hR
    have hin : i = n := by
      have q := congrArg List.length hd
      rw [List.length_drop, List.length_nil] at q
      omega
    subst hin
    refine codeAny_builtin F.entry_set_update_loop ?_
    rw [Around.under_plainId F.plain_set_update_loop _]
    show wpAny _ A.in1 (pyNext (.ref I) >>= _) _ _ s
    refine wpAny_bind (W.done s _ _ hst fun s' hm => ?_)
    show wpAny _ A.in1 (ret Value.none) _ _ s'
    exact wpAny_pure (hR s' (hm.mono hsub) (hS.at fun o e => hm.heap S o hSw e))
  | cons y ys ih =>
    intro i s l hd hi hl hst hS hR
    have hlt : i < n := by
      have q := congrArg List.length hd
      rw [List.length_drop, List.length_cons] at q
      omega
    have hy : xs[i]? = some y := by
      have q := congrArg (fun z : List Str => z[0]?) hd
      simpa using q
    have hd' : xs.drop (i + 1) = ys := by
      have q := congrArg List.tail hd
      simpa [List.tail_drop] using q
    refine codeAny_builtin F.entry_set_update_loop ?_
    rw [Around.under_plainId F.plain_set_update_loop _]
    show wpAny _ A.in1 (pyNext (.ref I) >>= _) _ _ s
    refine wpAny_bind (W.item i s _ _ hlt hst fun v s' hP hst' hm => ?_)
    obtain ⟨z, t, hz, rfl⟩ := hval i v hP
    have ez : z = y := by rw [hy] at hz; exact (Option.some.inj hz).symm
    subst ez
    have hS' : TSet w s'.heap S l := hS.at fun o e => hm.heap S o hSw e
    show wpAny _ A.in1 (holding [Value.str z t] (setAdd S (.str z t)) >>= _) _ _ s'
    refine wpAny_bind (wpAny_holding ?_)
    unfold setAdd
    refine wpAny_holding ?_
    refine wpAny_bind ((PySem.strKind P w).pyHash (k := z) (PySem.strKind_is _ _ _ _) ?_)
    refine add_hashed (s := { s' with toks := s'.toks + 1 }) hS' (by omega) (fun hin => ?_) (fun hout h' hsb hS2 => ?_)
    · refine wpAny_pure ⟨plainId_quiet F.plain_set_update_loop _, ih (i + 1) _ l hd' hlt (by omega) (W.frame _ s' _ _ hst' (Nat.le_succ _) fun b hb o e => e) hS' fun s'' hm'' hS'' => ?_⟩
      refine hR s'' (Moved.trans W.gtrans ((hm.mono hsub).then_heap (Nat.le_succ _) fun b o hb e => e) hm'') ?_
      rw [come, if_pos hin]; exact hS''
    · refine wpAny_pure ⟨plainId_quiet F.plain_set_update_loop _, ih (i + 1) _ (z :: l) hd' hlt (by rw [List.length_cons]; omega) (W.frame _ s' _ _ hst' (Nat.le_succ _) fun b hb o e => ?_) hS2 fun s'' hm'' hS'' => ?_⟩
      · rw [hsb.2 b (fun h : b = S => hSf (by rw [← h]; exact hb))]; exact e
      · refine hR s'' (Moved.trans W.gtrans ((hm.mono hsub).then_heap (Nat.le_succ _) fun b o hb e => ?_) hm'') ?_
        · rw [hsb.2 b (fun h : b = S => hb (by rw [h]; exact List.mem_cons_self))]; exact e
        · rw [come, if_neg hout]; exact hS''
end
end TxS
set_option maxHeartbeats 1000000
namespace G
open PySem PySem.Spec PyProof.Rows L2
section
variable {X : Cx} {cl : Cl} {W : WX} {a : Expr} {f : E} {p p2 q pos : Pos}
end
end G
set_option maxHeartbeats 1000000
namespace G
open PySem PySem.Spec PyProof.Rows L2
theorem RpAll.three {K : PySem.W.Frag} {S H : Hp} {vs : List V} {x y z : D} {ps : List Addr} (h : RpAll K S H vs [x, y, z] ps) : ∃ v1 v2 v3 p1 p2 p3, vs = [v1, v2, v3] ∧ Rp K S H v1 x p1 ∧ Rp K S H v2 y p2 ∧ Rp K S H v3 z p3 := by
  cases h with
  | cons ra t =>
    cases t with
    | cons rb t2 =>
      cases t2 with
      | cons rc t3 =>
        cases t3
        exact ⟨_, _, _, _, _, _, rfl, ra, rb, rc⟩
section
variable {X : Cx} {cl : Cl} {W : WX} {a b : Expr} {f g : E} {p3 pos : Pos}
theorem RpAll.step {K : PySem.W.Frag} {S H : Hp} : ∀ {vs : List V} {ds : List D} {ps : List Addr}, RpAll K S H vs ds ps → shs ds = true → RpAll K S H vs.reverse ds.reverse []
  | _, _, _, .nil, _ => .nil
  | _, _, _, .cons r t, h => by
    simp only [shs, Bool.and_eq_true] at h
    rw [List.reverse_cons, List.reverse_cons]
    exact RpAll.append (ps := []) (qs := []) (RpAll.step t h.2) (.cons (ps := []) (qs := []) ((r.sh h.1).2 _) .nil)
end
end G
set_option maxHeartbeats 1000000
namespace G
open PySem PySem.Spec PyProof.Rows L2
section
variable {cl : Cl} {P : Pins} {X : Cx} {W : WX} {e a b c o k nn : Expr} {f g : E} {pos apos cpos : Pos} {i : Nat} {pl : Pl}
end
end G
set_option maxHeartbeats 1000000
namespace G
open PySem PySem.Spec PyProof.Rows L2
theorem posK_at {k : KD} : ∀ {ks : List KD} {kvs : List (Key × V)} {j : Nat}, kvs.map (·.1) = ks.map kK → posK k ks = some j → ∃ v, (kvs.map (·.2))[j]? = some v ∧ valV kvs (kK k) = some v
  | [], _, j, _, h => by cases h
  | _ :: _, [], j, h, _ => by simp at h
  | x :: ks, (key, w) :: kvs, j, h, e => by
    simp only [List.map_cons, List.cons.injEq] at h
    unfold posK at e
    by_cases hx : x = k
    · rw [if_pos hx] at e; cases e
      exact ⟨w, rfl, valV_pos (by rw [← hx]; exact h.1)⟩
    · rw [if_neg hx] at e
      cases h2 : posK k ks with
      | none => rw [h2] at e; cases e
      | some m =>
        rw [h2] at e; cases e
        obtain ⟨v, a, b⟩ := posK_at h.2 h2
        refine ⟨v, by simpa using a, ?_⟩
        rw [valV_neg (show ¬ key = kK k by rw [h.1]; exact fun z => hx (kK_inj z))]; exact b
section
variable {cl : Cl} {P : Pins} {X : Cx} {W : WX} {e a b c o k : Expr} {f g : E} {pos apos cpos : Pos} {i : Nat} {pl : Pl}
theorem dp_dk (hu : X.A.units + 1 < cLine) (hs : NoSl b) (ha : DPl cl X W a i pl) (hb : DO cl X W b g) : DPl cl X W (.Subscript a b pos) i (pDk i pl g) := by
  obtain ⟨ta, pa, qa⟩ := ha.pf
  obtain ⟨tb, pb, qb⟩ := hb.pf
  refine ⟨_, pe_dget hu pa pb hs, fun σ ρ S H Q l s z => qa σ ρ S H _ l s ?_⟩
  unfold pDk at z
  cases k1 : pl ρ with
  | no => rw [k1] at z; exact z
  | ex c fs => rw [k1] at z; exact z
  | ok p =>
    rw [k1] at z
    intro x v0 S1 H1 g1 hv0 hx
    refine qb σ ρ S1 H1 _ (l.mono g1) g1.sh ?_
    replace z : PostP cl W σ S H i ((g ρ).bind fun k => (partAt ρ i p).bind fun d => match d with
      | .dic true ks _ => (Res.of ((keyD k).bind fun kk => posK kk ks)).bind fun j => .ok (p ++ [j])
      | _ => .no) Q := z
    cases k2 : g ρ with
    | no => rw [k2] at z; exact z
    | ex c fs => rw [k2] at z; exact fun S' H' cls dd g' x => z S' H' cls dd (g1.trans g') x
    | ok kd =>
      rw [k2] at z
      intro y S2 H2 qs g2 ry
      cases k3 : partAt ρ i p with
      | no => simp only [Res.bind, k3] at z; exact z.elim
      | ex c fs => exact absurd k3 partAt_ex
      | ok d' =>
        simp only [Res.bind, k3] at z
        obtain ⟨d, hd, hp⟩ := partAt_ok k3
        obtain ⟨w0, ps, hw0, rw0⟩ := l.2 i d hd
        rw [hv0] at hw0; cases hw0
        obtain ⟨v, pre, mid, post, _, hv, rv, _⟩ := (rw0.mono (g1.trans g2).ss (g1.trans g2).hh).focus p hp
        have := (hx.mono g2.hh).det hv
        subst this
        split at z
        · rename_i ks xs
          cases hkk : keyD kd with
          | none => rw [hkk] at z; exact z.elim
          | some kk =>
            rw [hkk] at z
            obtain ⟨rfl, hok⟩ := keyD_rp ry hkk
            cases k4 : posK kk ks with
            | none => simp only [Option.bind_some, k4] at z; exact z.elim
            | some j =>
              simp only [Option.bind_some, k4] at z
              cases rv with
              | @dicO ad kvs _ _ _ hl hkeys ra =>
              obtain ⟨w, hw1, hw2⟩ := posK_at (k := kk) hkeys.1 k4
              exact ⟨ad, w, rfl, .inl ⟨kvs, kK kk, .inl hl, rfl, hw2.symm⟩, z w v0 S2 H2 (g1.trans g2) hv0 (hv.app (.inr (.inr (.inl ⟨kvs, hl, rfl⟩))) hw1)⟩
        · exact z.elim
end
end G
set_option maxHeartbeats 1000000
namespace G
open PySem PySem.Spec PyProof.Rows L2
section
variable {cl : Cl} {P : Pins} {X : Cx} {W : WX} {e a b c o k : Expr} {f g : E} {pos apos cpos p2 p : Pos} {i : Nat} {pl : Pl}
end
section
variable {cl : Cl} {P : Pins} {X : Cx} {W : WX} {o : Expr} {es : List Expr} {fs : List E} {pos cpos : Pos}
end
end G
set_option maxHeartbeats 1000000
namespace G
open PySem PySem.Spec PyProof.Rows L2
section
variable {K : PySem.W.Frag} {S H S' : Hp}
mutual
theorem Rp.nl (h : ∀ b u, S b = some u → (∀ vs, u ≠ .lst vs) → S' b = some u) : ∀ {v : V} {d : D} {ps : List Addr}, Rp K S H v d ps → d.nl = true → Rp K S' H v d ps
  | _, _, _, .non, _ => .non
  | _, _, _, .bl b, _ => .bl b
  | _, _, _, .int i, _ => .int i
  | _, _, _, .str s q, _ => .str s q
  | _, _, _, .scr ns q, z => by simp [D.nl] at z
  | _, _, _, .lstS q r s, z => by simp [D.nl] at z
  | _, _, _, .lstO q r, z => .lstO q (RpAll.nl h r (by simpa [D.nl] using z))
  | _, _, _, .tupS q r s, z => .tupS (q.imp (fun q => q.imp (fun q => h _ _ q (by intro vs e; cases e)) (fun ⟨o, q⟩ => ⟨o, h _ _ q (by intro vs e; cases e)⟩)) id) (RpAll.nl h r (by simpa [D.nl] using z)) s
  | _, _, _, .tupO q r, z => .tupO q (RpAll.nl h r (by simpa [D.nl] using z))
  | _, _, _, .dlk q k r s, z => by simp [D.nl] at z
  | _, _, _, .dicS q k r s, z => .dicS (h _ _ q (by intro vs e; cases e)) k (RpAll.nl h r (by simpa [D.nl] using z)) s
  | _, _, _, .dicO q k r, z => .dicO q k (RpAll.nl h r (by simpa [D.nl] using z))
  | _, _, _, .xcp q f, z => .xcp (h _ _ q (by intro vs e; cases e)) (by
      rcases f with f | ⟨d, l, p, h1, h2, h3, h4⟩
      · exact .inl f
      · exact .inr ⟨d, l, p, h1, h2, h3, h _ _ h4 (by intro vs e; cases e)⟩)
  | _, _, _, .insS q k r s, z => .insS (h _ _ q (by intro vs e; cases e)) k (RpAll.nl h r (by simpa [D.nl] using z)) s
  | _, _, _, .insO q k r, z => .insO q k (RpAll.nl h r (by simpa [D.nl] using z))
theorem RpAll.nl (h : ∀ b u, S b = some u → (∀ vs, u ≠ .lst vs) → S' b = some u) : ∀ {vs : List V} {ds : List D} {ps : List Addr}, RpAll K S H vs ds ps → nls ds = true → RpAll K S' H vs ds ps
  | _, _, _, .nil, _ => .nil
  | _, _, _, .cons r t, z => by
    simp only [nls, Bool.and_eq_true] at z
    exact .cons (Rp.nl h r z.1) (RpAll.nl h t z.2)
end
mutual
theorem Rp.ol : ∀ {v : V} {d : D} {ps : List Addr}, Rp K S H v d ps → d.ol = true → ∀ b ∈ ps, ∃ vs, H b = some (.lst vs)
  | _, _, _, .non, _, b, hb => by cases hb
  | _, _, _, .bl _, _, b, hb => by cases hb
  | _, _, _, .int _, _, b, hb => by cases hb
  | _, _, _, .str _ _, _, b, hb => by cases hb
  | _, _, _, .scr _ _, _, b, hb => by cases hb
  | _, _, _, .lstS _ _ _, _, b, hb => by cases hb
  | _, _, _, .lstO q r, z, b, hb => by
    rcases List.mem_cons.mp hb with e | hb
    · subst e; exact ⟨_, q⟩
    · exact RpAll.ol r (by simpa [D.ol] using z) b hb
  | _, _, _, .tupS _ _ _, _, b, hb => by cases hb
  | _, _, _, .tupO _ _, z, b, hb => by simp [D.ol] at z
  | _, _, _, .dicS _ _ _ _, _, b, hb => by cases hb
  | _, _, _, .dlk _ _ _ _, _, b, hb => by cases hb
  | _, _, _, .dicO _ _ _, z, b, hb => by simp [D.ol] at z
  | _, _, _, .xcp _ _, _, b, hb => by cases hb
  | _, _, _, .insS _ _ _ _, _, b, hb => by cases hb
  | _, _, _, .insO _ _ _, z, b, hb => by simp [D.ol] at z
theorem RpAll.ol : ∀ {vs : List V} {ds : List D} {ps : List Addr}, RpAll K S H vs ds ps → ols ds = true → ∀ b ∈ ps, ∃ vs, H b = some (.lst vs)
  | _, _, _, .nil, _, b, hb => by cases hb
  | _, _, _, .cons r t, z, b, hb => by
    simp only [ols, Bool.and_eq_true] at z
    exact (List.mem_append.mp hb).elim (Rp.ol r z.1 b) (RpAll.ol t z.2 b)
end
end
section
variable {cl : Cl} {P : Pins} {X : Cx} {W : WX} {e o : Expr} {es : List Expr} {f : E} {m : M} {fs : List E} {p p1 p2 pos : Pos} {i k n : Nat} {fA : Addr} {fd : FuncData} {ps : List Str} {x : Str}
end
section
variable {cl : Cl} {X : Cx} {W : WX} {e a b k o : Expr} {f g : E} {pos : Pos}
end
end G
set_option maxHeartbeats 1000000
namespace G
open PySem L2
section
variable {X : Cx}
end
section
variable {K : PySem.W.Frag} {S H S' : Hp}
end
section
variable {cl : Cl} {P : Pins} {X : Cx} {W : WX} {st : Stmt} {e a b k o : Expr} {f g h : E} {F : Sd} {pos p apos cpos : Pos}
end
end G
set_option maxHeartbeats 1000000
namespace G
open PySem L2
section
open PySem.Spec PyProof.Rows
end
section
variable {X : Cx}
end
section
variable {cl : Cl} {P : Pins} {X : Cx} {W : WX} {st : Stmt} {e a b k o x : Expr} {f g h : E} {F : Sd} {pl : Pl} {pos p apos cpos : Pos}
end
end G
set_option maxHeartbeats 1000000
namespace G
open PySem L2
section
variable {X : Cx}
end
section
variable {cl : Cl} {P : Pins} {X : Cx} {W : WX} {st : Stmt} {e a b k o x : Expr} {f g h : E} {F : Sd} {pl : Pl} {pos p apos cpos : Pos}
end
end G
set_option maxHeartbeats 1000000
namespace G
open PySem L2
section
variable {cl : Cl} {P : Pins} {X : Cx} {W : WX} {st : Stmt} {e a b k o x : Expr} {f g h : E} {F : Sd} {pl : Pl} {pos p apos cpos : Pos}
end
structure DSsT (T : Hp → Prop) (cl : Cl) (P : Pins) (X : Cx) (W : WX) (st : List Stmt) (F : Sd) : Prop where
  pf : ∃ t : TS, PSs X st t ∧ ∀ (S0 H0 S H : Hp) (σ : L2.St) (ρ : Env) (Dn : Ends), T S0 → Rl X.K P S0 H0 S H σ ρ → PostS cl X.K P W S0 H0 (F ρ) Dn → t Dn σ H
structure DST (T : Hp → Prop) (cl : Cl) (P : Pins) (X : Cx) (W : WX) (st : Stmt) (F : Sd) : Prop where
  pf : ∃ t : TS, PS X st t ∧ ∀ (S0 H0 S H : Hp) (σ : L2.St) (ρ : Env) (Dn : Ends), T S0 → Rl X.K P S0 H0 S H σ ρ → PostS cl X.K P W S0 H0 (F ρ) Dn → t Dn σ H
structure DTT (T : Hp → Prop) (cl : Cl) (P : Pins) (X : Cx) (W : WX) (e : Expr) (f : E) : Prop where
  pf : ∃ t : TT, PT X e t ∧ ∀ (S0 H0 S H : Hp) (σ : L2.St) (ρ : Env) (Q : Bool → Hp → Prop), T S0 → Rl X.K P S0 H0 S H σ ρ → PostT cl X.K W σ S H (f ρ) Q → t σ H Q
structure DWT (T : Hp → Prop) (cl : Cl) (P : Pins) (X : Cx) (W : WX) (e : Expr) (f : E) : Prop where
  pf : ∃ t : TT, PW X e t ∧ ∀ (S0 H0 S H : Hp) (σ : L2.St) (ρ : Env) (Q : Bool → Hp → Prop), T S0 → Rl X.K P S0 H0 S H σ ρ → PostT cl X.K W σ S H (f ρ) Q → t σ H Q
section
variable {cl : Cl} {P : Pins} {X : Cx} {W : WX} {T : Hp → Prop} {st : Stmt} {rest aa bb : List Stmt} {e a b c k o x : Expr} {f g h : E} {F G' : Sd} {pos p apos cpos : Pos}
theorem DWT.t (h : DWT T cl P X W e f) : DTT T cl P X W e f := let ⟨t, p, q⟩ := h.pf; ⟨t, p.pt, q⟩
end
section
variable {cl : Cl} {P : Pins} {X : Cx} {W : WX} {st : Stmt} {rest : List Stmt} {a b y : Expr} {f g h : E} {F G' : Sd} {pos p p2 apos cpos pos' : Pos}
theorem PostS.pin {K : PySem.W.Frag} {P P' : Pins} {S0 H0 S1 H1 : Hp} {o : Out} {Dn : Ends} (g0 : Grow S0 H0 S1 H1) (hp : ∀ i v, P i = some v → P' i = some v) (z : PostS cl K P W S0 H0 o Dn) : PostS cl K P' W S1 (upE H0 S1) o Dn := by
  have key : ∀ {S H σ ρ}, Rl K P' S1 (upE H0 S1) S H σ ρ → Rl K P S0 H0 S H σ ρ := fun R => by
    have R' := rl_down g0 R
    exact ⟨fun i v h => R'.pn i v (hp i v h), R'.gr, R'.it⟩
  cases o with
  | no => exact z
  | nx ρ => exact fun S H σ R => z S H σ (key R)
  | bk ρ => exact fun S H σ R => z S H σ (key R)
  | ct ρ => exact fun S H σ R => z S H σ (key R)
  | rt d ρ => exact fun v S H σ R => z v S H σ (key R)
  | xc c fs ρ => exact fun S H σ cls dd R x => z S H σ cls dd (key R) x
end
end G
set_option maxHeartbeats 1000000
namespace G
open PySem L2
section
variable {X : Cx}
end
end G
set_option maxHeartbeats 1000000
namespace G
open PySem L2
structure DSsQ (v0 : V) (cl : Cl) (P : Pins) (X : Cx) (W : WX) (st : List Stmt) (F : Sd) : Prop where
  pf : ∃ t : TS, PSs X st t ∧ ∀ (S0 H0 S H : Hp) (σ : L2.St) (ρ : Env) (Dn : Ends), Rl X.K P S0 H0 S H σ ρ → PostS cl X.K P W S0 H0 (F ρ) { Dn with nx := fun _ H => Dn.rt v0 H } → t Dn σ H
structure DAv (cl : Cl) (X : Cx) (W : WX) (es : List Expr) (fs : List E) (i : Nat) : Prop where
  pf : ∃ t : TA, PA X es t ∧ ∀ (σ : L2.St) (ρ : Env) (S H : Hp) (Q : List V → Hp → Prop), Look X.K S H σ ρ → Same S H → PostA cl X.K W σ S H (eArgs fs ρ) (fun vs H1 => ∃ v0, σ[i]? = some (some v0) ∧ Q (vs ++ [v0]) H1) → t σ H Q
section
variable {cl : Cl} {P : Pins} {X : Cx} {W : WX} {st : Stmt} {rest : List Stmt} {e o : Expr} {es : List Expr} {f : E} {fs : List E} {F G' : Sd} {p pos pos' : Pos} {v0 : V} {x : Str} {i k n : Nat} {fA : Addr} {fd : FuncData} {ps : List Str}
end
section
variable {cl : Cl}
end
end G
set_option maxHeartbeats 1000000
namespace G
open PySem PySem.Spec PyProof.Rows L2
section
variable {X : Cx} {cl : Cl} {W : WX} {a : Expr} {f : E} {p pos : Pos}
end
end G
set_option maxHeartbeats 1000000
namespace G
open PySem L2
section
variable {X : Cx}
end
end G
set_option maxHeartbeats 1000000
namespace G
open PySem PySem.Spec PyProof.Rows L2
section
variable {X : Cx}
end
section
variable {cl : Cl} {P : Pins} {X : Cx} {W : WX} {st : Stmt} {e a b k o x : Expr} {f g h : E} {F : Sd} {pl : Pl} {pos p apos cpos : Pos}
end
end G
set_option maxHeartbeats 1000000
namespace G
open PySem PySem.Spec PyProof.Rows L2
section
variable {X : Cx}
end
end G
set_option maxHeartbeats 1000000
namespace G
open PySem PySem.Spec PyProof.Rows L2
section
variable {cl : Cl} {P : Pins} {X : Cx} {W : WX} {e o : Expr} {es : List Expr} {f : E} {m : M} {fs : List E} {p p1 p2 p' pos : Pos} {i k n : Nat} {fA : Addr} {fd : FuncData} {ps : List Str} {x : Str}
end
section
variable {K : PySem.W.Frag} {S H S' : Hp}
theorem RpAll.flat : ∀ {vs : List V} {ds : List D} {ps : List Addr}, RpAll K S H vs ds ps → G.ats ds = true → ∀ v ∈ vs, ∀ a, v ≠ .ref a
  | _, _, _, .nil, _, v, hv => by cases hv
  | _, _, _, .cons (d := d) r t, h, v, hv => by
    simp only [G.ats, List.all_cons, Bool.and_eq_true] at h
    rcases List.mem_cons.mp hv with z | z
    · subst z
      intro a ha
      subst ha
      cases r <;> simp [D.at] at h
    · exact RpAll.flat t h.2 v z
theorem RpAll.deep : ∀ {vs : List V} {ds : List D} {ps : List Addr}, RpAll K S H vs ds ps → G.ats ds = false → ∃ v ∈ vs, ∃ a, v = .ref a
  | _, _, _, .nil, h => by simp [G.ats] at h
  | _, _, _, .cons (d := d) (v := v) r t, h => by
    simp only [G.ats, List.all_cons, Bool.and_eq_false_iff] at h
    rcases h with h | h
    · refine ⟨v, List.mem_cons_self .., ?_⟩
      cases r <;> first | exact ⟨_, rfl⟩ | simp [D.at] at h
    · obtain ⟨w, h1, h2⟩ := RpAll.deep t h
      exact ⟨w, List.mem_cons_of_mem _ h1, h2⟩
def Thin (u : HO) : Prop := (∀ vs, u ≠ .lst vs) ∧ ∀ vs, u = .tup vs → ∀ v ∈ vs, ∀ a, v ≠ .ref a
mutual
theorem Rp.nt (h : ∀ b u, S b = some u → Thin u → S' b = some u) : ∀ {v : V} {d : D} {ps : List Addr}, Rp K S H v d ps → d.nt = true → Rp K S' H v d ps
  | _, _, _, .non, _ => .non
  | _, _, _, .bl b, _ => .bl b
  | _, _, _, .int i, _ => .int i
  | _, _, _, .str s q, _ => .str s q
  | _, _, _, .scr ns q, z => by simp [D.nt] at z
  | _, _, _, .lstS q r s, z => by simp [D.nt] at z
  | _, _, _, .lstO q r, z => .lstO q (RpAll.nt h r (by simpa [D.nt] using z))
  | _, _, _, .tupS (vs := vs) q r s, z => by
    simp only [D.nt, Bool.false_or, Bool.and_eq_true] at z
    have hf := RpAll.flat r z.1
    refine .tupS (q.imp (fun q => q.imp (fun q => h _ _ q ⟨fun _ z => (by cases z), ?_⟩) (fun ⟨o, q⟩ => ⟨o, h _ _ q ⟨fun _ z => (by cases z), fun _ z => (by cases z)⟩⟩)) id) (RpAll.nt h r z.2) s
    intro ws e
    cases e
    exact hf
  | _, _, _, .tupO q r, z => .tupO q (RpAll.nt h r (by simpa [D.nt] using z))
  | _, _, _, .dlk q k r s, z => by simp [D.nt] at z
  | _, _, _, .dicS q k r s, z => .dicS (h _ _ q ⟨fun _ z => (by cases z), fun _ z => (by cases z)⟩) k (RpAll.nt h r (by simpa [D.nt] using z)) s
  | _, _, _, .dicO q k r, z => .dicO q k (RpAll.nt h r (by simpa [D.nt] using z))
  | _, _, _, .xcp q f, z => .xcp (h _ _ q ⟨fun _ z => (by cases z), fun _ z => (by cases z)⟩) (by
      rcases f with f | ⟨d, l, p, h1, h2, h3, h4⟩
      · exact .inl f
      · exact .inr ⟨d, l, p, h1, h2, h3, h _ _ h4 ⟨fun _ z => (by cases z), fun _ z => (by cases z)⟩⟩)
  | _, _, _, .insS q k r s, z => .insS (h _ _ q ⟨fun _ z => (by cases z), fun _ z => (by cases z)⟩) k (RpAll.nt h r (by simpa [D.nt] using z)) s
  | _, _, _, .insO q k r, z => .insO q k (RpAll.nt h r (by simpa [D.nt] using z))
theorem RpAll.nt (h : ∀ b u, S b = some u → Thin u → S' b = some u) : ∀ {vs : List V} {ds : List D} {ps : List Addr}, RpAll K S H vs ds ps → nts ds = true → RpAll K S' H vs ds ps
  | _, _, _, .nil, _ => .nil
  | _, _, _, .cons r t, z => by
    simp only [nts, Bool.and_eq_true] at z
    exact .cons (Rp.nt h r z.1) (RpAll.nt h t z.2)
end
mutual
theorem Rp.ot : ∀ {v : V} {d : D} {ps : List Addr}, Rp K S H v d ps → d.ot = true → ∀ b ∈ ps, ∃ u, H b = some u ∧ ¬ Thin u
  | _, _, _, .non, _, b, hb => by cases hb
  | _, _, _, .bl _, _, b, hb => by cases hb
  | _, _, _, .int _, _, b, hb => by cases hb
  | _, _, _, .str _ _, _, b, hb => by cases hb
  | _, _, _, .scr _ _, _, b, hb => by cases hb
  | _, _, _, .lstS _ _ _, _, b, hb => by cases hb
  | _, _, _, .lstO q r, z, b, hb => by
    rcases List.mem_cons.mp hb with e | hb
    · subst e; exact ⟨_, q, fun t => t.1 _ rfl⟩
    · exact RpAll.ot r (by simpa [D.ot] using z) b hb
  | _, _, _, .tupS _ _ _, _, b, hb => by cases hb
  | _, _, _, .tupO q r, z, b, hb => by
    simp only [D.ot, if_true, Bool.and_eq_true, Bool.not_eq_true'] at z
    rcases List.mem_cons.mp hb with e | hb
    · subst e
      refine ⟨_, q, fun t => ?_⟩
      obtain ⟨v, hv, a, ha⟩ := RpAll.deep r z.1
      exact t.2 _ rfl v hv a ha
    · exact RpAll.ot r z.2 b hb
  | _, _, _, .dicS _ _ _ _, _, b, hb => by cases hb
  | _, _, _, .dlk _ _ _ _, _, b, hb => by cases hb
  | _, _, _, .dicO _ _ _, z, b, hb => by simp [D.ot] at z
  | _, _, _, .xcp _ _, _, b, hb => by cases hb
  | _, _, _, .insS _ _ _ _, _, b, hb => by cases hb
  | _, _, _, .insO _ _ _, z, b, hb => by simp [D.ot] at z
theorem RpAll.ot : ∀ {vs : List V} {ds : List D} {ps : List Addr}, RpAll K S H vs ds ps → ots ds = true → ∀ b ∈ ps, ∃ u, H b = some u ∧ ¬ Thin u
  | _, _, _, .nil, _, b, hb => by cases hb
  | _, _, _, .cons r t, z, b, hb => by
    simp only [ots, Bool.and_eq_true] at z
    exact (List.mem_append.mp hb).elim (Rp.ot r z.1 b) (RpAll.ot t z.2 b)
end
end
section
variable {cl : Cl} {X : Cx} {W : WX} {e : Expr} {es : List Expr} {fs : List E} {p pos : Pos}
end
end G
set_option maxHeartbeats 1000000
namespace G
open PySem PySem.Spec PyProof.Rows L2
section
variable {cl : Cl} {P : Pins} {X : Cx} {W : WX} {body : List Stmt} {F : Sd} {x n r fN : Str} {c : Value} {i j : Nat} {np np2 rp ap apos pos pos' : Pos} {sup : String → Option Bool} {c0 fn : String}
end
end G
set_option maxHeartbeats 1000000
namespace G
open PySem PySem.Spec PyProof.Rows L2
section
variable {X : Cx} {pos : Pos}
end
end G
set_option maxHeartbeats 1000000
namespace G
open PySem PySem.Spec PyProof.Rows L2
section
variable {cl : Cl} {P : Pins} {X : Cx} {W : WX} {st : Stmt} {rest a b : List Stmt} {e c o : Expr} {f : E} {F G' : Sd} {pos apos cpos : Pos}
end
section
variable {cl : Cl}
end
section
variable {cl : Cl}
end
section
variable {cl : Cl} {X : Cx} {W : WX} {e a b c lo hi : Expr} {es : List Expr} {f g h : E} {fs : List E} {pos p p2 : Pos}
end
section
variable {cl : Cl} {P : Pins} {X : Cx} {W : WX} {e o : Expr} {es : List Expr} {f : E} {fs : List E} {p apos pos : Pos} {i k n : Nat} {fA : Addr} {fd : FuncData} {ps : List Str} {x : Str}
end
section
variable {cl : Cl} {P : Pins} {X : Cx} {W : WX} {e o : Expr} {es : List Expr} {f : E} {fs : List E} {p apos pos : Pos} {i k n : Nat} {fA : Addr} {fd : FuncData} {ps : List Str} {x : Str}
end
section
variable {cl : Cl} {P : Pins} {X : Cx} {W : WX} {e o : Expr} {es : List Expr} {f : E} {fs : List E} {p apos pos : Pos} {i k n : Nat} {fA : Addr} {fd : FuncData} {ps : List Str} {x : Str}
end
section
variable {cl : Cl} {P : Pins} {X : Cx} {W : WX} {e o : Expr} {es : List Expr} {f : E} {fs : List E} {p apos pos : Pos} {i k n : Nat} {fA : Addr} {fd : FuncData} {ps : List Str} {x : Str}
end
section
variable {cl : Cl} {P : Pins} {X : Cx} {W : WX} {e o : Expr} {es : List Expr} {f : E} {fs : List E} {p apos pos : Pos} {i k n : Nat} {fA : Addr} {fd : FuncData} {ps : List Str} {x : Str}
end
section
variable {cl : Cl} {P : Pins} {X : Cx} {W : WX} {a b : Expr} {f g : E} {p pos ppos : Pos}
end
end G
set_option maxHeartbeats 1000000
namespace G
open PySem PySem.Spec PyProof.Rows L2
section
variable {X : Cx} {pins : List (Addr × Obj)} {σ : L2.St} {H : Hp} {s : Shared} {i : Nat} {n : Str}
end
section
variable {X : Cx} {pins : List (Addr × Obj)} {i : Nat} {n : Str} {pos : Pos} {Wo : WX}
end
end G
set_option maxHeartbeats 1000000
namespace G
open PySem PySem.Spec PyProof.Rows L2 HotX
section
variable {X : Cx} {x n : Str} {c : Value} {i : Nat} {body suite orelse : List Stmt} {b₀ : Stmt} {np pos pos' : Pos} {tb : WX → TS} {ts : Addr → Value → Option Addr → TS} {u : TS} {Wout : WX}
end
end G
set_option maxHeartbeats 2000000
namespace G
open PySem PySem.Spec PyProof.Rows L2 HotX
end G
set_option maxHeartbeats 2000000
namespace G
open PySem PySem.Spec PyProof.Rows L2 HotX
theorem FnOkC.calm {cl : Cl} {P : Program} {w : World} {K K' : PySem.W.Frag} {mg : Str → Option Value} {base : Heap} {CX : CXT} {k n : Nat} {f : Addr} {fd : FuncData} {ps : List Str} {den : List D → Res D} (F : FnOk P w K mg base (L2.CX P w) k f fd ps (spD cl K' n den)) : FnOk P w K mg base CX k f fd ps (spD cl K' n (noX den)) := by
  have hsp : ∀ vs H Q E, spD cl K' n (noX den) vs H Q E → spD cl K' n den vs H Q (fun _ _ _ => False) := fun vs H Q E h => by
    obtain ⟨S, ds, h1, h2, h3, h4, h5⟩ := h
    refine ⟨S, ds, h1, h2, h3, h4, ?_⟩
    unfold noX at h5
    cases kd : den ds with
    | no => rw [kd] at h5; exact h5
    | ok d => rw [kd] at h5; exact h5
    | ex c fs => rw [kd] at h5; exact h5.elim
  refine ⟨fun vs H Q E h => F.len vs H Q _ (hsp vs H Q E h), fun A outer s H args us vs Q E hr he hb hv hs => codeAny_mono (F.run A outer s H args us vs Q _ hr he hb hv (hsp vs H Q E hs)) fun r s' h => ?_⟩
  cases r with
  | error e =>
    obtain ⟨_, _, _, _, _, _, _, _, _, _, _, _, z⟩ := h
    exact z.elim
  | ok fl => cases fl <;> exact h
section
variable {cl : Cl} {P : Pins} {X : Cx} {W : WX} {body els : List Stmt} {F Gs : Sd} {x y n : Str} {c : Value} {i k : Nat} {np np2 np3 lp yp ap cp rp pos pos' : Pos} {sup : String → Option Bool} {cs : List String} {c1 : String} {l : Int} {lj : Nat} {fI : Addr} {fd : FuncData}
end
end G
set_option maxHeartbeats 1000000
namespace G
open PySem PySem.Spec PyProof.Rows L2
section
variable {X : Cx} {cl : Cl} {W : WX} {a b : Expr} {f g : E} {p3 pos : Pos}
end
end G
set_option maxHeartbeats 4000000
namespace G
open PySem PySem.Spec PyProof.Rows L2
section
variable {X : Cx} {x1 x2 n : Str} {c1 c2 : Value} {i : Nat} {body suite : List Stmt} {b₀ : Stmt} {np np1 np2 tpos pos pos' : Pos} {kk : Nat} {tb : WX → TS} {ts : Addr → Value → Option Addr → TS} {Wout : WX}
end
section
variable {P : Pins} {X : Cx} {W : WX} {body : List Stmt} {F : Sd} {x1 x2 n r : Str} {c1 c2 : Value} {i j : Nat} {np1 np2 np3 tpos rp apos pos pos' : Pos} {kk : Nat} {sup : String → Option Bool}
end
section
variable {cl : Cl} {P : Pins} {X : Cx} {W : WX} {body : List Stmt} {F : Sd} {x1 x2 n r : Str} {c1 c2 : Value} {i j : Nat} {np1 np2 np3 tpos rp apos pos pos' : Pos} {kk : Nat} {sup : String → Option Bool}
end
end G
set_option maxHeartbeats 4000000
namespace G
open PySem PySem.Spec PyProof.Rows L2
section
open AutoSeq1 (wpAny_loadPart')
end
section
variable {prog : Program} {w : World} {A : Around} {E : Value → Shared → Prop} {s : Shared}
end
end G
set_option maxHeartbeats 1000000
namespace G
open PySem PySem.Spec PyProof.Rows L2
theorem Draws.up {prog : Program} {w : World} {A : Around} {it : Addr} {fp : List Addr} {n : Nat} {P : Nat → Value → Prop} {St : Nat → Heap → Prop} (D : Draws prog w A it fp n P St) :
    Draws prog w A it fp (n + 1) (fun i x => P (i - 1) x) (fun i h => 1 ≤ i ∧ St (i - 1) h) where
  live := fun i h st => D.live _ _ st.2
  frame := fun i h h' st k => ⟨st.1, D.frame _ _ _ st.2 k⟩
  item := fun i s Q E hi st hQ => D.item (i - 1) s Q E (by have := st.1; omega) st.2 (fun x h' tk p q sb => hQ x h' tk p ⟨by omega, by rw [show i + 1 - 1 = i - 1 + 1 by have := st.1; omega]; exact q⟩ sb)
  done := fun s Q E st hE => D.done s Q E (by simpa using st.2) hE
section
variable {X : Cx}
variable {e : Expr} {ta : TA} {p pos tpos kp kq : Pos} {elts : List Expr} {kk j : Nat}
end
section
variable {cl : Cl} {X : Cx} {W : WX} {a : Expr} {f : E} {pos p kp kq : Pos} {jk : Nat}
end
end G
set_option maxHeartbeats 1000000
namespace G
open PySem PySem.Spec PyProof.Rows L2
section
variable {X : Cx} {cl : Cl} {W : WX}
def rFs (xs : Str) : V → Hp → VK → Prop := fun v H1 Q => (∃ y : Str, v = .str y ∧ y.length ≤ sizeLine ∧ (∃ z : Str, V.str y = .str z ∧ (Str.empty ++ xs ++ z).length ≤ sizeLine ∧ Q (.str (Str.empty ++ xs ++ z)) H1)) ∨ ∃ i : Int, v = .int i ∧ i.natAbs.log2 < 1920 ∧ (∃ z : Str, V.str (toString i) = .str z ∧ (Str.empty ++ xs ++ z).length ≤ sizeLine ∧ Q (.str (Str.empty ++ xs ++ z)) H1)
theorem pe_fs {xs : Str} {e : Expr} {ta : TE} {k : Nat} {p1 p2 p3 : Pos} (hx : (Str.empty ++ xs).length ≤ sizeLine) (he : PE X e ta) : PE X (.JoinedStr [.Constant (.str xs) k p1, .FormattedValue e (-1) none p2] p3) (tUn (rFs xs) ta) :=
  ⟨fun pins s σ H Q I h => (pe_joined (.cons pe_str (.cons (pe_fmt he) .nil))).run pins s σ H Q I ⟨xs, rfl, hx, h⟩⟩
theorem emp_tS (t : Tx) : Str.empty ++ tS t = tS t := by
  have : Str.empty = tS [] := rfl
  rw [this, tS_app]; rfl
theorem o_fs (t : Tx) (ht : t.all (fun c => decide (c < 0x110000)) = true) : Op1 X (rFs (tS t)) (fFs t) := by
  intro S H x dx d ps Q s rx e k
  unfold fFs at e
  split at e
  · rename_i s0 hs
    split at e
    · rename_i hl
      cases e
      have hl' := of_decide_eq_true hl
      refine .inr ?_
      unfold fStrI at hs
      split at hs
      · split at hs
        · rename_i i h
          simp only [Bool.and_eq_true, decide_eq_true_eq] at h
          cases hs
          cases rx
          obtain ⟨n, rfl⟩ : ∃ n : Nat, i = n := ⟨i.toNat, by omega⟩
          rw [Int.toNat_natCast] at *
          refine ⟨_, rfl, ?_, _, rfl, ?_, ?_⟩
          · rw [Int.natAbs_natCast]
            have : n.log2 < 64 := by
              rcases Nat.eq_zero_or_pos n with z | z
              · subst z; decide
              · exact (Nat.log2_lt (by omega)).mpr (by omega)
            omega
          · show (Str.empty ++ tS t ++ Str.ofString (toString ((n : Nat) : Int))).length ≤ sizeLine
            rw [num_tS, emp_tS, tS_app, tS_len]
            have h1 : (10000 : Nat) ≤ sizeLine := by decide
            simp only [List.length_append]
            omega
          · show Q (.str (Str.empty ++ tS t ++ Str.ofString (toString ((n : Nat) : Int)))) H
            rw [num_tS, emp_tS, tS_app]
            refine newV s (.str _ fun c hc => ?_) k
            rcases List.mem_append.mp hc with z | z
            · have := List.all_eq_true.mp ht c z
              simpa using this
            · exact numT_ascii n c z
        · cases hs
      · cases hs
    · cases e
  · cases e
variable {e : Expr} {f : E}
theorem de_fs {x : Str} {k : Nat} {p1 p2 p3 : Pos} (t : Tx) (h : x = tS t) (ht : t.all (fun c => decide (c < 0x110000)) = true) (hl : decide (t.length ≤ 10000) = true) (ha : DO cl X W e f) : DE cl X W (.JoinedStr [.Constant (.str x) k p1, .FormattedValue e (-1) none p2] p3) (e1 (fFs t) f) := by
  subst h
  refine de_1 (r := rFs (tS t)) (fun ta pa => pe_fs ?_ pa) (o_fs t ht) ha
  rw [emp_tS, tS_len]
  have h1 : (10000 : Nat) ≤ sizeLine := by decide
  have := of_decide_eq_true hl
  omega
end
theorem RpAll.four {K : PySem.W.Frag} {S H : Hp} {vs : List V} {x y z w : D} {ps : List Addr} (h : RpAll K S H vs [x, y, z, w] ps) : ∃ v1 v2 v3 v4 p1 p2 p3 p4, vs = [v1, v2, v3, v4] ∧ Rp K S H v1 x p1 ∧ Rp K S H v2 y p2 ∧ Rp K S H v3 z p3 ∧ Rp K S H v4 w p4 := by
  cases h with
  | cons ra t =>
    obtain ⟨v2, v3, v4, p2, p3, p4, rfl, rb, rc, rd⟩ := t.three
    exact ⟨_, _, _, _, _, _, _, _, rfl, ra, rb, rc, rd⟩
end G
set_option maxHeartbeats 2000000
namespace G
open PySem L2
section
variable {X : Cx} {W : WX} {pins : List (Addr × Obj)} {σ : L2.St} {H : Hp} {s s' : Shared} {E : XK}
end
end G
set_option maxHeartbeats 2000000
namespace L2
open PySem PySem.Spec PyProof.Rows
section
variable {X : Cx}
end
end L2
set_option maxHeartbeats 2000000
namespace G
open PySem L2
section
variable {cl : Cl} {X : Cx} {W : WX} {e a b c : Expr} {es : List Expr} {f g h : E} {fs : List E} {p pos : Pos}
end
section
variable {cl : Cl} {X : Cx} {W : WX} {elt tg iter : Expr} {ifs : List Expr} {scope : Scope} {own : List (Str × Nat)} {pos : Pos} {b : B} {g : TG} {c f : E} {it : I}
end
end G
set_option maxHeartbeats 2000000
namespace G
open PySem PySem.Spec L2
theorem atP_app : ∀ (q p : List Nat) (d : D), atP (q ++ p) d = (atP q d).bind (atP p)
  | [], p, d => rfl
  | j :: q, p, d => by
    simp only [List.cons_append, atP]
    by_cases h : d.isO
    · simp only [h, if_true]
      cases d.kids[j]? with
      | none => rfl
      | some c => simp only [Option.bind_some]; exact atP_app q p c
    · simp [h]
theorem VAt.cat {H : Hp} : ∀ {q p : List Nat} {v0 v w : V}, VAt H v0 q v → VAt H v p w → VAt H v0 (q ++ p) w
  | [], _, _, _, _, h, k => by cases h; exact k
  | j :: q, _, _, _, _, ⟨a, vs, v1, h1, h2, h3, h4⟩, k => ⟨a, vs, v1, h1, h2, h3, VAt.cat h4 k⟩
theorem isO_kset (d : D) (ys : List D) : (d.kset ys).isO = d.isO := by cases d <;> rfl
theorem kids_kset (d : D) (h : d.isO = true) (ys : List D) : (d.kset ys).kids = ys := by cases d <;> simp_all [D.isO, D.kset, D.kids]
theorem atP_grow : ∀ (r : List Nat) (T : D) (xs ys : List D), atP r T = some (.lst true xs) → ∀ q : List Nat, (∃ d, atP q T = some d) → ∃ d, atP q (setP r (.lst true (xs ++ ys)) T) = some d
  | [], T, xs, ys, h, q, ⟨d, hq⟩ => by
    cases h
    cases q with
    | nil => exact ⟨_, rfl⟩
    | cons j q =>
      simp only [setP, atP, D.isO, D.kids, if_true] at hq ⊢
      cases e : xs[j]? with
      | none => rw [e] at hq; cases hq
      | some c =>
        rw [e] at hq
        have hj := (List.getElem?_eq_some_iff.mp e).1
        rw [List.getElem?_append_left hj, e]
        exact ⟨d, hq⟩
  | i :: r, T, xs, ys, h, q, ⟨d, hq⟩ => by
    unfold atP at h
    by_cases ho : T.isO
    · simp only [ho, if_true] at h
      cases e : T.kids[i]? with
      | none => rw [e] at h; cases h
      | some c =>
        rw [e] at h
        simp only [Option.bind_some] at h
        have hi := (List.getElem?_eq_some_iff.mp e).1
        cases q with
        | nil => exact ⟨_, rfl⟩
        | cons j q =>
          simp only [setP, e, atP, isO_kset, ho, if_true, kids_kset T ho] at hq ⊢
          by_cases hij : i = j
          · subst hij
            rw [e] at hq
            simp only [Option.bind_some] at hq
            rw [List.getElem?_set_self hi]
            simp only [Option.bind_some]
            exact atP_grow r c xs ys h q ⟨d, hq⟩
          · rw [List.getElem?_set_ne hij]
            exact ⟨d, hq⟩
    · simp [ho] at h
theorem VAt.grow {H : Hp} {a : Addr} {us ys : List V} (hl : H a = some (.lst us)) : ∀ {p : List Nat} {v0 v : V}, VAt H v0 p v → VAt (upd H a (.lst (us ++ ys))) v0 p v
  | [], _, _, h => h
  | j :: p, _, _, ⟨b, vs, v1, h1, h2, h3, h4⟩ => by
    by_cases hb : b = a
    · subst hb
      have e : vs = us := h2.det (.inl hl)
      subst e
      have hj := (List.getElem?_eq_some_iff.mp h3).1
      exact ⟨b, vs ++ ys, v1, h1, .inl upd_same, by rw [List.getElem?_append_left hj]; exact h3, VAt.grow hl h4⟩
    · refine ⟨b, vs, v1, h1, ?_, h3, VAt.grow hl h4⟩
      rcases h2 with h | h | ⟨kvs, h, e⟩ | ⟨C, dx, fv, h, e⟩
      · exact .inl (by rw [upd_ne hb]; exact h)
      · exact .inr (.inl (by rw [upd_ne hb]; exact h))
      · exact .inr (.inr (.inl ⟨kvs, by rw [upd_ne hb]; exact h, e⟩))
      · exact .inr (.inr (.inr ⟨C, dx, fv, by rw [upd_ne hb]; exact h, e⟩))
theorem VAt.aside {H : Hp} {L : Addr} {o : HO} : ∀ {p : List Nat} {v0 v : V}, VAt H v0 p v → (∀ {q : List Nat} {j : Nat} {r : List Nat}, p = q ++ j :: r → ¬ VAt H v0 q (.ref L)) → VAt (upd H L o) v0 p v
  | [], _, _, h, _ => h
  | j :: p, v0, v, ⟨b, vs, v1, h1, h2, h3, h4⟩, hn => by
    have hb : b ≠ L := fun z => hn (q := []) (j := j) (r := p) rfl (by rw [h1, z]; rfl)
    refine ⟨b, vs, v1, h1, ?_, h3, VAt.aside h4 fun {q j' r} e z => hn (q := j :: q) (j := j') (r := r) (by rw [e]; rfl) ⟨b, vs, v1, h1, h2, h3, z⟩⟩
    rcases h2 with h | h | ⟨kvs, h, e⟩ | ⟨C, dx, fv, h, e⟩
    · exact .inl (by rw [upd_ne hb]; exact h)
    · exact .inr (.inl (by rw [upd_ne hb]; exact h))
    · exact .inr (.inr (.inl ⟨kvs, by rw [upd_ne hb]; exact h, e⟩))
    · exact .inr (.inr (.inr ⟨C, dx, fv, by rw [upd_ne hb]; exact h, e⟩))
section
variable {K : PySem.W.Frag} {S H : Hp}
theorem VAt.off {L : Addr} {o : HO} {T : D} {ps : List Addr} {v0 v : V} {q : List Nat} (r : Rp K S H v0 T ps) (hL : L ∉ ps) (hq : ∃ d, atP q T = some d) (h : VAt H v0 q v) : VAt (upd H L o) v0 q v := by
  obtain ⟨d, hq⟩ := hq
  refine VAt.aside h fun {q' j r'} e z => ?_
  rw [e, atP_app] at hq
  obtain ⟨d', h1, h2⟩ := Option.bind_eq_some_iff.mp hq
  obtain ⟨v', pre, mid, post, hps, hv, rd, _⟩ := r.focus q' h1
  have ho : d'.isO = true := by
    unfold atP at h2
    by_cases ho : d'.isO = true
    · exact ho
    · simp [ho] at h2
  obtain ⟨a, vs, qs, e1, e2, _⟩ := rd.kid ho
  have := hv.det z
  rw [e1] at this; cases this
  exact hL (by rw [hps, e2]; simp)
end
structure Pth (H : Hp) (v0 : V) (T : D) (qs : List (List Nat)) (vs : List V) : Prop where
  len : vs.length = qs.length
  at_ : ∀ (j : Nat) (q : List Nat), qs[j]? = some q → ∃ v : V, vs[j]? = some v ∧ VAt H v0 q v ∧ ∃ d, atP q T = some d
def AlOk (H : Hp) (v0 : V) (T : D) (σ : L2.St) (ti : Nat) (al : Option (List Nat)) : Prop := ∀ q : List Nat, al = some q → ∃ v : V, σ[ti]? = some (some v) ∧ VAt H v0 q v ∧ ∃ d, atP q T = some d
abbrev Pn0 : Pins := fun _ => none
structure KRx (K : PySem.W.Frag) (si ti : Nat) (S0 H0 S H : Hp) (σ : L2.St) (g : GSt) (L : Addr) (v0 : V) (vs : List V) : Prop where
  hL : H0 L = none
  sL : S0 L = none
  rl : Rl K Pn0 S0 (upd H0 L (.lst vs)) S H (σ ++ [some v0]) (g.ρ ++ [some g.T])
  sg : σ[si]? = some (some (.ref L))
  ns : g.ρ[si]? = some none
  nt : g.ρ[ti]? = some none
  ne : si ≠ ti
  pt : Pth H v0 g.T g.qs vs
  ak : AlOk H v0 g.T σ ti g.al
def KR (K : PySem.W.Frag) (si ti : Nat) (S0 H0 S H : Hp) (σ : L2.St) (g : GSt) : Prop := ∃ L v0 vs, KRx K si ti S0 H0 S H σ g L v0 vs
section
variable {K : PySem.W.Frag} {si ti : Nat} {S0 H0 S H S' H' : Hp} {σ : L2.St} {g : GSt} {L : Addr} {v0 : V} {vs : List V}
theorem KRx.lst (R : KRx K si ti S0 H0 S H σ g L v0 vs) : H L = some (.lst vs) := R.rl.gr.hh L _ upd_same
theorem KRx.nsL (R : KRx K si ti S0 H0 S H σ g L v0 vs) : S L = none := by
  cases e : S L with
  | none => rfl
  | some u =>
    have z := R.rl.gr.nw L u e R.sL
    rw [upd_same] at z; cases z
theorem KRx.gr (R : KRx K si ti S0 H0 S H σ g L v0 vs) : Grow S0 H0 S H := by
  refine ⟨fun b o hb => R.rl.gr.hh b o ?_, R.rl.gr.ss, R.rl.gr.sh, fun b o h1 h2 => ?_⟩
  · rw [upd_ne (fun z => by rw [z, R.hL] at hb; cases hb)]; exact hb
  · have z := R.rl.gr.nw b o h1 h2
    by_cases hb : b = L
    · rw [hb]; exact R.hL
    · rwa [upd_ne hb] at z
theorem KRx.grow (R : KRx K si ti S0 H0 S H σ g L v0 vs) (gg : Grow S H S' H') : KRx K si ti S0 H0 S' H' σ g L v0 vs :=
  ⟨R.hL, R.sL, R.rl.grow gg, R.sg, R.ns, R.nt, R.ne, ⟨R.pt.len, fun j q h => let ⟨v, a, b, c⟩ := R.pt.at_ j q h; ⟨v, a, b.mono gg.hh, c⟩⟩, fun q h => let ⟨v, a, b, c⟩ := R.ak q h; ⟨v, a, b.mono gg.hh, c⟩⟩
theorem KR.grow (R : KR K si ti S0 H0 S H σ g) (gg : Grow S H S' H') : KR K si ti S0 H0 S' H' σ g := let ⟨L, v0, vs, r⟩ := R; ⟨L, v0, vs, r.grow gg⟩
theorem KR.gr (R : KR K si ti S0 H0 S H σ g) : Grow S0 H0 S H := let ⟨_, _, _, r⟩ := R; r.gr
theorem KRx.len (R : KRx K si ti S0 H0 S H σ g L v0 vs) : σ.length = g.ρ.length := by
  have := R.rl.look.1
  simpa using this
theorem KRx.parts (R : KRx K si ti S0 H0 S H σ g L v0 vs) : ∃ ps qs, Its K S H σ g.ρ ps ∧ Rp K S H v0 g.T qs ∧ (ps ++ qs).Nodup ∧ (∀ p ∈ ps ++ qs, upd H0 L (.lst vs) p = none ∧ S p = none) ∧ L ∉ ps ++ qs := by
  obtain ⟨ps, qs, h1, h2, h3, h4, _⟩ := R.rl.drop (fun _ _ z => nomatch z)
  refine ⟨ps, qs, h1, h2, h3, h4, fun z => ?_⟩
  have := (h4 L z).1
  rw [upd_same] at this; cases this
theorem node_at {T : D} {ps : List Addr} (r : Rp K S H v0 T ps) {q : List Nat} {v : V} (hq : ∃ d, atP q T = some d) (hv : VAt H v0 q v) : ∃ ms, Rp K S H v (nodeD T q) ms := by
  obtain ⟨d, hq⟩ := hq
  obtain ⟨v', pre, mid, post, _, hv', rd, _⟩ := r.focus q hq
  have := hv.det hv'
  subst this
  exact ⟨mid, by rw [nodeD, hq]; exact rd⟩
theorem nodes_at {T : D} {ps : List Addr} (r : Rp K S H v0 T ps) : ∀ {qs : List (List Nat)} {vs : List V}, Pth H v0 T qs vs → ∃ ms, RpAll K S H vs (qs.map (nodeD T)) ms
  | [], [], _ => ⟨[], .nil⟩
  | [], _ :: _, h => by have := h.len; simp at this
  | _ :: _, [], h => by have := h.len; simp at this
  | q :: qs, v :: vs, h => by
    obtain ⟨v', h1, h2, h3⟩ := h.at_ 0 q rfl
    simp at h1; subst h1
    obtain ⟨m1, r1⟩ := node_at r h3 h2
    obtain ⟨m2, r2⟩ := nodes_at r (qs := qs) (vs := vs) ⟨by have := h.len; simpa using this, fun j q' hq => by
      have := h.at_ (j + 1) q' (by simpa using hq)
      simpa using this⟩
    exact ⟨m1 ++ m2, .cons r1 r2⟩
theorem set_same {σ : L2.St} {i : Nat} {x : Option V} (h : σ[i]? = some x) : σ.set i x = σ := by
  obtain ⟨hlt, hv⟩ := List.getElem?_eq_some_iff.mp h
  rw [← hv]; exact List.set_getElem_self hlt
theorem KRx.look (R : KRx K si ti S0 H0 S H σ g L v0 vs) : Look K S H σ (g.vw si ti) := by
  obtain ⟨ps, qs, h1, h2, _⟩ := R.parts
  obtain ⟨ms, ra⟩ := nodes_at h2 R.pt
  have l1 : Look K S H σ (put g.ρ si (.lst true (g.qs.map (nodeD g.T)))) := by
    have := h1.look.put (Rp.lstO R.lst ra) si
    rwa [set_same R.sg] at this
  unfold GSt.vw
  cases e : g.al with
  | none => exact l1
  | some q =>
    obtain ⟨v, a1, a2, a3⟩ := R.ak q e
    obtain ⟨m2, r2⟩ := node_at h2 a3 a2
    have := l1.put r2 ti
    rwa [set_same a1] at this
theorem KR.look (R : KR K si ti S0 H0 S H σ g) : Look K S H σ (g.vw si ti) := let ⟨_, _, _, r⟩ := R; r.look
end
def pinK (si : Nat) (a : Option V) (ti : Nat) (b : Option V) : Pins := fun i => if i = si then a else if i = ti then b else none
section
variable {K : PySem.W.Frag} {si ti : Nat} {S0 H0 S H S' H' : Hp} {σ : L2.St} {g : GSt} {L : Addr} {v0 : V} {vs : List V}
theorem VAt.only {T : D} {qs : List Addr} {v : V} {q : List Nat} (rp : Rp K S H v0 T qs) (hq : ∃ d, atP q T = some d) (hv : VAt H v0 q v) (hk : ∀ x ∈ qs, ∀ o, H x = some o → H' x = some o) : VAt H' v0 q v := by
  obtain ⟨d, hq⟩ := hq
  have r2 : Rp K S (fun a => if a ∈ qs then H a else none) v0 T qs := rp.keep (Same.refl _) fun x hx o ho => by simp only [hx, if_true]; exact ho
  obtain ⟨v', pre, mid, post, _, hv', _, _⟩ := r2.focus q hq
  have e := (hv'.mono (H' := H) fun b o hb => by
    by_cases hm : b ∈ qs
    · simpa only [hm, if_true] using hb
    · simp only [hm, if_false] at hb; cases hb).det hv
  rw [← e]
  exact hv'.mono fun b o hb => by
    by_cases hm : b ∈ qs
    · simp only [hm, if_true] at hb; exact hk b hm o hb
    · simp only [hm, if_false] at hb; cases hb
theorem okS_of {ρ : Env} (h : okS si ti ρ = true) : ρ[si]? = some none ∧ ρ[ti]? = some none := by
  unfold okS at h
  split at h
  · rename_i h1 h2; exact ⟨h1, h2⟩
  · cases h
theorem KRx.frame (R : KRx K si ti S0 H0 S H σ g L v0 vs) : ∃ H0x, Rl K (pinK si (some (.ref L)) ti (σ[ti]?).join) S H0x S H σ g.ρ ∧
    ∀ (S' H' : Hp) (σ' : L2.St) (ρ' : Env), Rl K (pinK si (some (.ref L)) ti (σ[ti]?).join) S H0x S' H' σ' ρ' → okS si ti ρ' = true → KRx K si ti S0 H0 S' H' σ' { g with ρ := ρ' } L v0 vs := by
  obtain ⟨ps, qs, it, rp, nd, fr, hLn⟩ := R.parts
  obtain ⟨n1, n2, n3⟩ := List.nodup_append.mp nd
  have there : ∀ q ∈ L :: qs, ∃ o, H q = some o := fun q hq => by
    rcases List.mem_cons.mp hq with z | z
    · rw [z]; exact ⟨_, R.lst⟩
    · exact rp.there q z
  have h0 : ∀ p ∈ ps ++ qs, H0 p = none := fun p hp => by
    have z := (fr p hp).1
    have hne : p ≠ L := fun y => hLn (y ▸ hp)
    rwa [upd_ne hne] at z
  refine ⟨fun a => if a ∈ L :: qs then H a else H0 a, ⟨fun i v hi => ?_, ⟨fun b o hb => ?_, Same.refl _, R.gr.sh, fun b o h1 h2 => by rw [h1] at h2; cases h2⟩, ps, it, n1, fun p hp => ⟨?_, (fr p (List.mem_append_left _ hp)).2⟩⟩, fun S' H' σ' ρ' R' ho => ?_⟩
  · unfold pinK at hi
    by_cases e1 : i = si
    · rw [if_pos e1] at hi; cases hi; rw [e1]; exact R.sg
    · rw [if_neg e1] at hi
      by_cases e2 : i = ti
      · rw [if_pos e2] at hi
        rw [e2]
        cases e3 : σ[ti]? with
        | none => rw [e3] at hi; cases hi
        | some x => rw [e3] at hi; simp at hi; rw [hi]
      · rw [if_neg e2] at hi; cases hi
  · by_cases hm : b ∈ L :: qs
    · simpa only [hm, if_true] using hb
    · simp only [hm, if_false] at hb; exact R.gr.hh b o hb
  · have hm : p ∉ L :: qs := fun z => by
      rcases List.mem_cons.mp z with y | y
      · exact hLn (y ▸ List.mem_append_left _ hp)
      · exact n3 p hp p y rfl
    simp only [hm, if_false]
    exact h0 p (List.mem_append_left _ hp)
  · obtain ⟨ps', it', nd', fr'⟩ := R'.it
    have hx : ∀ q ∈ L :: qs, ∀ o, H q = some o → H' q = some o := fun q hq o hqo => R'.gr.hh q o (by simp only [hq, if_true]; exact hqo)
    have rp' : Rp K S' H' v0 g.T qs := rp.keep R'.gr.ss fun x hx' o hxo => hx x (List.mem_cons_of_mem _ hx') o hxo
    have outx : ∀ a, (if a ∈ L :: qs then H a else H0 a) = none → a ∉ L :: qs ∧ H0 a = none := fun a ha => by
      by_cases hm : a ∈ L :: qs
      · simp only [hm, if_true] at ha
        obtain ⟨o, ho⟩ := there a hm
        rw [ho] at ha; cases ha
      · simp only [hm, if_false] at ha; exact ⟨hm, ha⟩
    have notL : ∀ a, a ∉ L :: qs → a ≠ L := fun a ha z => ha (by rw [z]; exact List.mem_cons_self ..)
    obtain ⟨o1, o2⟩ := okS_of ho
    have sig : ∀ v, σ[ti]? = some (some v) → σ'[ti]? = some (some v) := fun v hv => R'.pn ti v (by
      unfold pinK
      rw [if_neg (Ne.symm R.ne), if_pos rfl, hv]; rfl)
    refine ⟨R.hL, R.sL, ⟨(fun _ _ z => nomatch z), ⟨fun b o hb => ?_, R.gr.ss.trans R'.gr.ss, R'.gr.sh, fun b o h1 h2 => ?_⟩, ps' ++ qs, it'.more rp', List.nodup_append.mpr ⟨nd', n2, fun a ha b hb z => ?_⟩, fun p hp => ?_⟩, R'.pn si _ (by unfold pinK; rw [if_pos rfl]), o1, o2, R.ne,
      ⟨R.pt.len, fun j q h => let ⟨v, a, b, c⟩ := R.pt.at_ j q h; ⟨v, a, VAt.only rp c b fun x hx' => hx x (List.mem_cons_of_mem _ hx'), c⟩⟩,
      fun q h => let ⟨v, a, b, c⟩ := R.ak q h; ⟨v, sig v a, VAt.only rp c b fun x hx' => hx x (List.mem_cons_of_mem _ hx'), c⟩⟩
    · by_cases hb' : b = L
      · rw [hb', upd_same] at hb; cases hb
        rw [hb']
        exact hx L (List.mem_cons_self ..) _ R.lst
      · rw [upd_ne hb'] at hb
        refine R'.gr.hh b o ?_
        by_cases hm : b ∈ L :: qs
        · exfalso
          rcases List.mem_cons.mp hm with y | y
          · exact hb' y
          · rw [h0 b (List.mem_append_right _ y)] at hb; cases hb
        · simp only [hm, if_false]; exact hb
    · cases e : S b with
      | some u => exact R.rl.gr.nw b u e h2
      | none =>
        obtain ⟨m1, m2⟩ := outx b (R'.gr.nw b o h1 e)
        rw [upd_ne (notL b m1)]; exact m2
    · obtain ⟨m1, _⟩ := outx a (fr' a ha).1
      exact m1 (by rw [z]; exact List.mem_cons_of_mem _ hb)
    · rcases List.mem_append.mp hp with y | y
      · obtain ⟨m1, m2⟩ := outx p (fr' p y).1
        exact ⟨by rw [upd_ne (notL p m1)]; exact m2, (fr' p y).2⟩
      · refine ⟨(fr p (List.mem_append_right _ y)).1, ?_⟩
        cases e : S' p with
        | none => rfl
        | some u =>
          obtain ⟨m1, _⟩ := outx p (R'.gr.nw p u e (fr p (List.mem_append_right _ y)).2)
          exact absurd (List.mem_cons_of_mem _ y) m1
end
end G
set_option maxHeartbeats 2000000
namespace G
open PySem PySem.Spec L2
def PostK (K : PySem.W.Frag) (si ti : Nat) (S0 H0 : Hp) (o : OutK) (Dn : Ends) : Prop := match o with
  | .no => False
  | .nx g => ∀ S H σ, KR K si ti S0 H0 S H σ g → Dn.nx σ H
  | .rt d ρ => ∀ v S H σ, Rl K Pn0 S0 H0 S H (σ ++ [some v]) (ρ ++ [some d]) → Dn.rt v H
structure KS (X : Cx) (si ti : Nat) (st : Stmt) (F : Kd) : Prop where
  pf : ∃ t : TS, PS X st t ∧ ∀ (S0 H0 S H : Hp) (σ : L2.St) (g : GSt) (Dn : Ends), KR X.K si ti S0 H0 S H σ g → PostK X.K si ti S0 H0 (F g) Dn → t Dn σ H
structure KSs (X : Cx) (si ti : Nat) (st : List Stmt) (F : Kd) : Prop where
  pf : ∃ t : TS, PSs X st t ∧ ∀ (S0 H0 S H : Hp) (σ : L2.St) (g : GSt) (Dn : Ends), KR X.K si ti S0 H0 S H σ g → PostK X.K si ti S0 H0 (F g) Dn → t Dn σ H
section
variable {cl : Cl} {X : Cx} {W : WX} {si ti : Nat} {st : Stmt} {rest a b : List Stmt} {e c o : Expr} {f : E} {F F' : Kd} {pos apos cpos : Pos} {pl : Pl}
theorem kss_nil : KSs X si ti [] kPass := ⟨tNext, pss_nil, fun S0 H0 S H σ g Dn R z => z S H σ R⟩
theorem kss_cons (h1 : KS X si ti st F) (h2 : KSs X si ti rest F') : KSs X si ti (st :: rest) (kSeq F F') := by
  obtain ⟨t, pt, qt⟩ := h1.pf
  obtain ⟨u, pu, qu⟩ := h2.pf
  refine ⟨_, pss_cons pt pu, fun S0 H0 S H σ g Dn R z => qt S0 H0 S H σ g _ R ?_⟩
  unfold kSeq at z
  cases k : F g with
  | no => rw [k] at z; exact z
  | nx g1 => rw [k] at z; exact fun S H σ R => qu S0 H0 S H σ g1 Dn R z
  | rt d ρ => rw [k] at z; exact z
theorem kss_one (h1 : KS X si ti st F) : KSs X si ti [st] F := let ⟨t, pt, qt⟩ := h1.pf; ⟨t, pss_one pt, qt⟩
theorem ks_lift {G' : Sd} (h : ∀ a b : Option V, DS cl (pinK si a ti b) X W st G') : KS X si ti st (kLift si ti G') := by
  let tt : Option V → Option V → TS := fun a b => Classical.choose (h a b).pf
  have sp : ∀ a b, PS X st (tt a b) ∧ ∀ (S0 H0 S H : Hp) (σ : L2.St) (ρ : Env) (Dn : Ends), Rl X.K (pinK si a ti b) S0 H0 S H σ ρ → PostS cl X.K (pinK si a ti b) W S0 H0 (G' ρ) Dn → tt a b Dn σ H := fun a b => Classical.choose_spec (h a b).pf
  refine ⟨fun Dn σ H => tt (σ[si]?).join (σ[ti]?).join Dn σ H, ⟨fun pins s σ H D I hw => (sp _ _).1.run pins s σ H D I hw⟩, fun S0 H0 S H σ g Dn R z => ?_⟩
  obtain ⟨L, v0, vs, R⟩ := R
  obtain ⟨H0x, Rx, back⟩ := R.frame
  have e1 : (σ[si]?).join = some (.ref L) := by rw [R.sg]; rfl
  rw [e1]
  refine (sp _ _).2 S H0x S H σ g.ρ Dn Rx ?_
  unfold kLift at z
  cases k : G' g.ρ with
  | nx ρ' =>
    rw [k] at z
    by_cases ho : okS si ti ρ' = true
    · simp only [ho, if_true] at z
      exact fun S' H' σ' R' => z S' H' σ' ⟨L, v0, vs, back S' H' σ' ρ' R' ho⟩
    · simp only [ho] at z
      exact z.elim
  | _ => rw [k] at z; exact z.elim
theorem its_skip {K : PySem.W.Frag} {S H : Hp} {x : Option V} : ∀ {σ : L2.St} {ρ : Env} {ps : List Addr} {i : Nat}, Its K S H σ ρ ps → ρ[i]? = some none → Its K S H (σ.set i x) ρ ps
  | _, _, _, _, .nil, h => by simp at h
  | _, _, _, 0, .skip t, h => .skip t
  | _, _, _, i + 1, .skip t, h => .skip (its_skip t (by simpa using h))
  | _, _, _, 0, .item r t, h => by simp at h
  | _, _, _, i + 1, .item r t, h => .item r (its_skip t (by simpa using h))
theorem rl_skip {K : PySem.W.Frag} {S0 H0 S H : Hp} {σ : L2.St} {ρ : Env} {i : Nat} {x : Option V} (R : Rl K Pn0 S0 H0 S H σ ρ) (h : ρ[i]? = some none) : Rl K Pn0 S0 H0 S H (σ.set i x) ρ := by
  obtain ⟨ps, it, nd, fr⟩ := R.it
  exact ⟨(fun _ _ z => nomatch z), R.gr, ps, its_skip it h, nd, fr⟩
theorem set_app {α : Type} (l : List α) (x y : α) (i : Nat) (h : i < l.length) : (l ++ [x]).set i y = l.set i y ++ [x] := by
  rw [List.set_append_left _ _ h]
theorem ks_if (hc : DT cl X W c f) (ha : KSs X si ti a F) (hb : KSs X si ti b F') : KS X si ti (.If c a b pos) (kIf si ti f F F') := by
  obtain ⟨tc, pc, qc⟩ := hc.pf
  obtain ⟨ta, pa, qa⟩ := ha.pf
  obtain ⟨tb, pb, qb⟩ := hb.pf
  refine ⟨_, ps_if pc pa pb, fun S0 H0 S H σ g Dn R z => ?_⟩
  refine qc σ (g.vw si ti) S H _ R.look R.gr.sh ?_
  unfold kIf at z
  cases k : f (g.vw si ti) with
  | no => rw [k] at z; exact z
  | ex c fs => rw [k] at z; exact z.elim
  | ok d =>
    rw [k] at z
    cases d with
    | bl bb =>
      intro S' H' gg
      cases bb with
      | true => exact qa S0 H0 S' H' σ g Dn (R.grow gg) z
      | false => exact qb S0 H0 S' H' σ g Dn (R.grow gg) z
    | _ => exact z.elim
theorem vw_si {g : GSt} (hne : si ≠ ti) (h : si < g.ρ.length) : (g.vw si ti)[si]? = some (some (.lst true (g.qs.map (nodeD g.T)))) := by
  unfold GSt.vw
  cases g.al with
  | none => simp [put, h]
  | some q =>
    show ((g.ρ.set si _).set ti _)[si]? = _
    rw [List.getElem?_set_ne (Ne.symm hne), List.getElem?_set_self h]
theorem ks_top {x : Str} {pos' : Pos} (hN : X.N.Nodup) (hi : X.N[ti]? = some x) (hx : Loc X.env.scope x) (ho : DPl cl X W e si (pIx si (pHere si) (e1 fNeg (eC (.int 1))))) (hs : swapsWith e (some (.Name x pos')) pos.line X.env = pure false := by rfl) (hf : X.fn x = true ∨ X.env.scope.names.lookup x = some .local := by first | exact .inl rfl | exact .inr rfl | assumption) :
    KS X si ti (.Assign [.Name x pos'] e pos) (kTop si ti) := by
  obtain ⟨t, pt, q⟩ := ho.pf
  refine ⟨_, ps_set hN hi hx pt hs hf, fun S0 H0 S H σ g Dn R z => ?_⟩
  obtain ⟨L, v0, vs, R⟩ := R
  refine q σ (g.vw si ti) S H _ R.look R.gr.sh ?_
  unfold kTop at z
  cases k : g.qs.getLast? with
  | none => rw [k] at z; exact z.elim
  | some ql =>
    rw [k] at z
    have hsl : si < g.ρ.length := (List.getElem?_eq_some_iff.mp R.ns).1
    have htl : ti < g.ρ.length := (List.getElem?_eq_some_iff.mp R.nt).1
    have hv := vw_si (g := g) R.ne hsl
    have hg : get (g.vw si ti) si = .ok (.lst true (g.qs.map (nodeD g.T))) := by unfold get; rw [hv]
    have hpos : 0 < g.qs.length := by
      cases e : g.qs with
      | nil => rw [e] at k; cases k
      | cons _ _ => simp
    have hpl : pIx si (pHere si) (G.e1 fNeg (eC (.int 1))) (g.vw si ti) = .ok [g.qs.length - 1] := by
      have e1 : pHere si (g.vw si ti) = .ok [] := by unfold pHere; rw [hg]; rfl
      have e2 : partAt (g.vw si ti) si [] = .ok (.lst true (g.qs.map (nodeD g.T))) := by unfold partAt; rw [hg]; rfl
      have e3 : ixD (g.qs.map (nodeD g.T)).length (-1) = some (g.qs.length - 1) := by
        simp only [ixD, List.length_map]
        rw [if_neg (by omega), if_pos (by omega)]
        congr 1; omega
      unfold pIx
      rw [e1]
      show ((G.e1 fNeg (eC (.int 1)) (g.vw si ti)).bind fun k => _) = _
      show ((partAt (g.vw si ti) si []).bind _) = _
      rw [e2]
      show ((Res.of (ixD (g.qs.map (nodeD g.T)).length (-1))).bind fun j => Res.ok ([] ++ [j])) = _
      rw [e3]; rfl
    rw [hpl]
    intro v w0 S' H' gg hw hva
    rw [R.sg] at hw; cases hw
    have R1 := R.grow gg
    obtain ⟨aa, us, v1, h1, h2, h3, h4⟩ := hva
    cases h1
    have := h2.det (.inl R1.lst)
    subst this
    have h4 : v1 = v := h4
    subst h4
    have hql : g.qs[g.qs.length - 1]? = some ql := by rw [← List.getLast?_eq_getElem?]; exact k
    obtain ⟨v', a1, a2, a3⟩ := R1.pt.at_ _ _ hql
    rw [h3] at a1; cases a1
    have hl := R.len
    refine z S' H' _ ⟨L, v0, us, ⟨R.hL, R.sL, ?_, ?_, R.ns, R.nt, R.ne, R1.pt, fun q' h' => ?_⟩⟩
    · have := rl_skip (i := ti) (x := some v1) R1.rl (by rw [List.getElem?_append_left htl]; exact R.nt)
      rwa [set_app _ _ _ _ (by omega)] at this
    · rw [List.getElem?_set_ne (Ne.symm R.ne)]; exact R.sg
    · cases h'
      exact ⟨v1, List.getElem?_set_self (by omega), a2, a3⟩
end
end G
set_option maxHeartbeats 2000000
namespace G
open PySem PySem.Spec L2
section
variable {K : PySem.W.Frag} {si ti : Nat} {S0 H0 S H S' H' : Hp} {σ : L2.St} {g : GSt} {L : Addr} {v0 : V} {vs : List V}
theorem KRx.place (R : KRx K si ti S0 H0 S H σ g L v0 vs) {r : List Nat} {xs : List D} (hr : atP r g.T = some (.lst true xs)) (gg : Grow S H S' H') {fs : List Addr} (fr : Fresh H S' fs) :
    ∃ (a : Addr) (us : List V), VAt H' v0 r (.ref a) ∧ H a = some (.lst us) ∧ H' a = some (.lst us) ∧ us.length = xs.length ∧
      ∀ (ws : List V) (ys : List D) (fs' : List Addr), (∀ f ∈ fs', f ∈ fs) → fs'.Nodup → RpAll K S' H' ws ys fs' → KRx K si ti S0 H0 S' (upd H' a (.lst (us ++ ws))) σ { g with T := setP r (.lst true (xs ++ ys)) g.T } L v0 vs := by
  have hl := R.len
  have hd : (g.ρ ++ [some g.T])[g.ρ.length]? = some (some g.T) := by simp
  obtain ⟨u0, a, qs1, h1, h2, h3, h4, h5, h6, h7, h8, up⟩ := rl_place R.rl hd hr rfl gg fr
  have e0 : u0 = v0 := by
    rw [← hl] at h1
    simp at h1; exact h1.symm
  subst e0
  cases h4 with
  | @lstO _ us _ _ hla ra =>
  have hH : H a = some (.lst us) := by
    obtain ⟨ps, qs, _, rp, _⟩ := R.parts
    obtain ⟨v', pre, mid, post, _, hv', rd, _⟩ := rp.focus r hr
    have := hv'.det h3
    subst this
    obtain ⟨l, us', _, e, hl', _⟩ := rd.lst R.gr.sh
    cases e
    have := gg.hh _ _ hl'
    rw [hla] at this; cases this
    exact hl'
  refine ⟨a, us, h2, hH, hla, ra.length, fun ws ys fs' hsub hnd rw' => ?_⟩
  have hfr : ∀ f ∈ fs', f ∉ qs1 := fun f hf hq => h6 f hq (hsub f hf)
  have u1 := up (.lst (us ++ ws)) (.lst true (xs ++ ys)) (qs1 ++ fs') (fun w hw => (List.mem_append.mp hw).imp id (hsub w)) (List.nodup_append.mpr ⟨h8, hnd, fun x hx y hy zz => hfr y hy (zz ▸ hx)⟩)
    (.lstO upd_same ((ra.append rw').set fun zz => (List.mem_append.mp zz).elim h5 fun y => h7 (hsub a y)))
  have e2 : put (g.ρ ++ [some g.T]) g.ρ.length (setP r (.lst true (xs ++ ys)) g.T) = g.ρ ++ [some (setP r (.lst true (xs ++ ys)) g.T)] := by simp [put]
  rw [e2] at u1
  have vg : ∀ {q : List Nat} {v : V}, VAt H u0 q v → VAt (upd H' a (.lst (us ++ ws))) u0 q v := fun h => VAt.grow hla (h.mono gg.hh)
  exact ⟨R.hL, R.sL, u1, R.sg, R.ns, R.nt, R.ne, ⟨R.pt.len, fun j q h => let ⟨v, x, y, c⟩ := R.pt.at_ j q h; ⟨v, x, vg y, atP_grow r g.T xs ys hr q c⟩⟩, fun q h => let ⟨v, x, y, c⟩ := R.ak q h; ⟨v, x, vg y, atP_grow r g.T xs ys hr q c⟩⟩
theorem KRx.setL (R : KRx K si ti S0 H0 S H σ g L v0 vs) (vs' : List V) (qs' : List (List Nat)) (hp : Pth H v0 g.T qs' vs') : KRx K si ti S0 H0 S (upd H L (.lst vs')) σ { g with qs := qs' } L v0 vs' := by
  obtain ⟨ps, qs, it, rp, nd, fr, hLn⟩ := R.parts
  have off : ∀ {q : List Nat} {v : V}, VAt H v0 q v → (∃ d, atP q g.T = some d) → VAt (upd H L (.lst vs')) v0 q v := fun h c => VAt.off rp (fun z => hLn (List.mem_append_right _ z)) c h
  have neL : ∀ p ∈ ps ++ qs, p ≠ L := fun p hp z => hLn (z ▸ hp)
  refine ⟨R.hL, R.sL, ⟨(fun _ _ z => nomatch z), ⟨fun b o hb => ?_, R.gr.ss, same_set R.gr.sh R.nsL, fun b o h1 h2 => ?_⟩, ps ++ qs, (it.more rp).set hLn, nd, fun p hp => ⟨?_, (fr p hp).2⟩⟩, R.sg, R.ns, R.nt, R.ne,
    ⟨hp.len, fun j q h => let ⟨v, x, y, c⟩ := hp.at_ j q h; ⟨v, x, off y c, c⟩⟩, fun q h => let ⟨v, x, y, c⟩ := R.ak q h; ⟨v, x, off y c, c⟩⟩
  · by_cases e : b = L
    · rw [e, upd_same] at hb; cases hb
      rw [e]; exact upd_same
    · rw [upd_ne e] at hb ⊢; exact R.gr.hh b o hb
  · have z := R.rl.gr.nw b o h1 h2
    by_cases e : b = L
    · rw [e, upd_same] at z; cases z
    · rw [upd_ne e] at z ⊢; exact z
  · have z := (fr p hp).1
    rw [upd_ne (neL p hp)] at z ⊢; exact z
end
section
variable {cl : Cl} {X : Cx} {W : WX} {si ti : Nat} {st : Stmt} {rest a b : List Stmt} {e c o : Expr} {f : E} {F F' : Kd} {pos apos cpos : Pos} {pl : Pl}
theorem ks_app (ho : DPl cl X W o ti pl) (he : DE cl X W e f)
    (hbase : attributeBase o "append" X.env (eval o X.env) = eval o X.env := by rfl)
    (hfew : ((backTo cpos (starEach [e] X.env)).all (fun x => !x.1) && (backToKw cpos (keywordEach [] X.env)).all (fun x => x.1.isSome)
      && decide (([e] : List Expr).length + ([] : List Keyword).length + (if ([] : List Keyword).isEmpty then 0 else 1) < 30)) = true := by rfl)
    (hline : (apos.endLine == cpos.line) = true := by rfl) (hs : starEach [e] X.env = [(false, eval e X.env)] := by rfl)
    (hsw : swapsWith (.Call (.Attribute o "append" apos) [e] [] cpos) none pos.line X.env = pure false := by rfl) :
    KS X si ti (.Expr (.Call (.Attribute o "append" apos) [e] [] cpos) pos) (kApp si ti pl f) := by
  obtain ⟨to, po, qo⟩ := ho.pf
  obtain ⟨t, pt, q⟩ := he.pf
  refine ⟨_, ps_expr (pe_bm PySem.F.plainAttrs_list PySem.F.slot_list_append PySem.F.type_list_append mt_append po (pa_cons pt pa_nil hs) hbase hfew hline hs) hsw, fun S0 H0 S H σ g Dn R z => ?_⟩
  obtain ⟨L, v0, vs, R⟩ := R
  unfold kApp at z
  refine qo σ (g.vw si ti) S H _ R.look R.gr.sh ?_
  cases ea : g.al with
  | none => rw [ea] at z; exact z.elim
  | some ql =>
  rw [ea] at z
  simp only at z
  cases k1 : pl (g.vw si ti) with
  | no => rw [k1] at z; exact z
  | ex c fs => rw [k1] at z; exact z.elim
  | ok p =>
    rw [k1] at z
    simp only at z
    intro v w0 S1 H1 g1 hw hva
    obtain ⟨w, a1, a2, a3⟩ := R.ak ql ea
    rw [hw] at a1; cases a1
    have R1 := R.grow g1
    cases k2 : atP (ql ++ p) g.T with
    | none => rw [k2] at z; exact z.elim
    | some d' =>
      rw [k2] at z
      cases d' with
      | lst ow xs =>
        cases ow with
        | false => exact z.elim
        | true =>
          simp only at z
          have hw2 : VAt H1 v0 (ql ++ p) v := (a2.mono g1.hh).cat hva
          obtain ⟨aa, us, b1, b2, b3, b4, _⟩ := R1.place k2 (Grow.refl g1.sh) Fresh.nil
          have := hw2.det b1; subst this
          refine ⟨.inl ⟨rfl, us, .inl (.inl b2)⟩, ?_⟩
          refine q σ (g.vw si ti) S1 H1 _ R1.look R1.gr.sh ?_
          cases k3 : f (g.vw si ti) with
          | no => rw [k3] at z; exact z
          | ex c fs => rw [k3] at z; exact z.elim
          | ok d =>
            rw [k3] at z
            simp only at z
            intro y S' H' ys gg fr rp
            by_cases hlen : xs.length < LINE
            · simp only [hlen, if_true] at z
              obtain ⟨a', us', c1, c2, c3, c4, up⟩ := R1.place k2 gg fr
              have := (b1.mono gg.hh).det c1; cases this
              refine ⟨aa, us', y, rfl, rfl, c3, by rw [c4, line_eq]; exact hlen, z S' _ σ ⟨L, v0, vs, ?_⟩⟩
              have kk := up [y] [d] ys (fun f hf => hf) fr.1 (by simpa using RpAll.cons rp RpAll.nil)
              rw [ea] at kk
              exact kk
            · simp only [hlen, if_false] at z; exact z.elim
      | _ => exact z.elim
theorem ks_push (ho : PE X o (tVar si)) (he : DPl cl X W e ti pl)
    (hbase : attributeBase o "append" X.env (eval o X.env) = eval o X.env := by rfl)
    (hfew : ((backTo cpos (starEach [e] X.env)).all (fun x => !x.1) && (backToKw cpos (keywordEach [] X.env)).all (fun x => x.1.isSome)
      && decide (([e] : List Expr).length + ([] : List Keyword).length + (if ([] : List Keyword).isEmpty then 0 else 1) < 30)) = true := by rfl)
    (hline : (apos.endLine == cpos.line) = true := by rfl) (hs : starEach [e] X.env = [(false, eval e X.env)] := by rfl)
    (hsw : swapsWith (.Call (.Attribute o "append" apos) [e] [] cpos) none pos.line X.env = pure false := by rfl) :
    KS X si ti (.Expr (.Call (.Attribute o "append" apos) [e] [] cpos) pos) (kPush si ti pl) := by
  obtain ⟨t, pt, q⟩ := he.pf
  refine ⟨_, ps_expr (pe_bm PySem.F.plainAttrs_list PySem.F.slot_list_append PySem.F.type_list_append mt_append ho (pa_cons pt pa_nil hs) hbase hfew hline hs) hsw, fun S0 H0 S H σ g Dn R z => ?_⟩
  obtain ⟨L, v0, vs, R⟩ := R
  unfold kPush at z
  refine ⟨.ref L, R.sg, .inl ⟨rfl, vs, .inl (.inl R.lst)⟩, ?_⟩
  refine q σ (g.vw si ti) S H _ R.look R.gr.sh ?_
  cases ea : g.al with
  | none => rw [ea] at z; exact z.elim
  | some ql =>
  rw [ea] at z
  simp only at z
  cases k1 : pl (g.vw si ti) with
  | no => rw [k1] at z; exact z
  | ex c fs => rw [k1] at z; exact z.elim
  | ok p =>
    rw [k1] at z
    simp only at z
    intro v w0 S1 H1 g1 hw hva
    obtain ⟨w, a1, a2, a3⟩ := R.ak ql ea
    rw [hw] at a1; cases a1
    have R1 := R.grow g1
    by_cases hc : (atP (ql ++ p) g.T).isSome ∧ g.qs.length < LINE
    · simp only [hc, and_self, if_true] at z
      obtain ⟨hs1, hs2⟩ := hc
      refine ⟨L, vs, v, rfl, rfl, R1.lst, by rw [R1.pt.len, line_eq]; exact hs2, z S1 _ σ ⟨L, v0, vs ++ [v], ?_⟩⟩
      have kk := R1.setL (vs ++ [v]) (g.qs ++ [ql ++ p]) ⟨by simp [R1.pt.len], fun j q hq => ?_⟩
      · rw [ea] at kk
        exact kk
      by_cases hj : j < g.qs.length
      · rw [List.getElem?_append_left hj] at hq
        obtain ⟨u, x, y, c⟩ := R1.pt.at_ j q hq
        exact ⟨u, by rw [List.getElem?_append_left (by rw [R1.pt.len]; exact hj)]; exact x, y, c⟩
      · have hj2 : j = g.qs.length := by
          have := (List.getElem?_eq_some_iff.mp hq).1
          simp at this; omega
        subst hj2
        simp at hq
        subst hq
        exact ⟨v, by rw [← R1.pt.len]; simp, (a2.mono g1.hh).cat hva, Option.isSome_iff_exists.mp hs1⟩
    · simp only [hc, if_false] at z; exact z.elim
theorem ks_pop (ho : PE X o (tVar si)) (hbase : attributeBase o "pop" X.env (eval o X.env) = eval o X.env := by rfl) (hline : (apos.endLine == cpos.line) = true := by rfl)
    (hsw : swapsWith (.Call (.Attribute o "pop" apos) [] [] cpos) none pos.line X.env = pure false := by rfl) : KS X si ti (.Expr (.Call (.Attribute o "pop" apos) [] [] cpos) pos) kPop := by
  refine ⟨_, ps_expr (pe_bm0 PySem.F.plainAttrs_list PySem.F.slot_list_pop PySem.F.type_list_pop mt_pop ho hbase hline) hsw, fun S0 H0 S H σ g Dn R z => ?_⟩
  obtain ⟨L, v0, vs, R⟩ := R
  unfold kPop at z
  by_cases hc : 2 ≤ g.qs.length
  · simp only [hc, if_true] at z
    have hl := R.pt.len
    obtain ⟨y, hy⟩ : ∃ y, vs[vs.length - 1]? = some y := ⟨vs[vs.length - 1]'(by omega), List.getElem?_eq_getElem (by omega)⟩
    refine ⟨.ref L, R.sg, .inl ⟨rfl, vs, .inl (.inl R.lst)⟩, L, vs, y, rfl, rfl, R.lst, hy, ?_⟩
    refine z S _ σ ⟨L, v0, vs.dropLast, R.setL vs.dropLast g.qs.dropLast ⟨by simp [hl], fun j q hq => ?_⟩⟩
    rw [List.getElem?_dropLast] at hq
    split at hq
    · rename_i hj
      obtain ⟨u, x, y, c⟩ := R.pt.at_ j q hq
      refine ⟨u, ?_, y, c⟩
      rw [List.getElem?_dropLast, if_pos (by rw [hl]; exact hj)]; exact x
    · cases hq
  · simp only [hc, if_false] at z; exact z.elim
end
end G
set_option maxHeartbeats 2000000
namespace G
open PySem PySem.Spec L2
theorem upE_upd (H0 S : Hp) (L : Addr) (x : HO) : upE (upd H0 L x) S = upd (upE H0 S) L x := by
  funext a
  by_cases h : a = L
  · subst h
    rw [upd_same]
    unfold upE
    rw [upd_same]
  · rw [upd_ne h]
    unfold upE
    rw [upd_ne h]
theorem RpAll.one {K : PySem.W.Frag} {S H : Hp} {vs : List V} {x : D} {ps : List Addr} (h : RpAll K S H vs [x] ps) : ∃ v, vs = [v] ∧ Rp K S H v x ps := by
  cases h with
  | cons ra t => cases t; exact ⟨_, rfl, by simpa using ra⟩
section
variable {K : PySem.W.Frag} {si ti : Nat} {S0 H0 S H S2 H2 : Hp} {σ : L2.St} {g : GSt}
theorem kr_up (R : KR K si ti S0 H0 S2 H2 σ g) (s0 : Same S0 S) (ss : Same S S2) : KR K si ti S (upE H0 S) S2 H2 σ g := by
  obtain ⟨L, v0, vs, R⟩ := R
  have hS : S L = none := none_back ss R.nsL
  refine ⟨L, v0, vs, ⟨?_, hS, ?_, R.sg, R.ns, R.nt, R.ne, R.pt, R.ak⟩⟩
  · unfold upE; rw [R.hL]; exact hS
  · have := rl_up R.rl s0 ss
    rwa [upE_upd] at this
theorem kr_down (g0 : Grow S0 H0 S H) (R : KR K si ti S (upE H0 S) S2 H2 σ g) : KR K si ti S0 H0 S2 H2 σ g := by
  obtain ⟨L, v0, vs, R⟩ := R
  obtain ⟨hL, hS⟩ := upE_none R.hL
  refine ⟨L, v0, vs, ⟨hL, none_back g0.ss hS, ?_, R.sg, R.ns, R.nt, R.ne, R.pt, R.ak⟩⟩
  have r := R.rl
  rw [← upE_upd] at r
  refine rl_down (H := upd H L (.lst vs)) ⟨fun b o hb => ?_, g0.ss, same_set g0.sh hS, fun b o h1 h2 => ?_⟩ r
  · by_cases e : b = L
    · rw [e, upd_same] at hb; cases hb
      rw [e, upd_same]
    · rw [upd_ne e] at hb ⊢; exact g0.hh b o hb
  · have hb : b ≠ L := fun z => by rw [z, hS] at h1; cases h1
    rw [upd_ne hb]; exact g0.nw b o h1 h2
end
section
variable {cl : Cl} {X : Cx} {W : WX} {si ti : Nat} {st : Stmt} {rest a b : List Stmt} {e c o tg iter : Expr} {body : List Stmt} {f : E} {F F' : Kd} {pos apos cpos : Pos} {pl : Pl} {bb : B} {it : I}
theorem for_runK {K : PySem.W.Frag} {g' : TG} {tb : TS} {body : Kd} (hb : ∀ a b : Option V, SG K (pinK si a ti b) g' bb)
    (qb : ∀ (S0 H0 S H : Hp) (σ : L2.St) (g : GSt) (Dn : Ends), KR K si ti S0 H0 S H σ g → PostK K si ti S0 H0 (body g) Dn → tb Dn σ H)
    {S0 H0 S H : Hp} {σ : L2.St} {g : GSt} {J : It} {ds : List D} {G : Hp → Prop} {Y : Nat → Hp → V → Hp → Prop} {Dn : Ends}
    (R : KR K si ti S0 H0 S H σ g) (wk : Walk J ds.length G Y) (hG : ∀ H2, Same S H2 → G H2)
    (hY : ∀ i H2 x H3 S2 d, Same S H2 → Same S S2 → Same S2 H2 → ds[i]? = some d → Y i H2 x H3 → Same H2 H3 ∧ ∃ qs, Rp K S2 H3 x d qs)
    (z : PostK K si ti S0 H0 (forK bb body si ti ds g) Dn) :
    ∃ Wk : Nat → Nat → L2.St → Hp → Prop, (∃ m, Wk 0 m σ H) ∧ ∀ i m σ H, Wk i m σ H →
      (J.stop i H ∧ Dn.nx σ H) ∨ (J.go i H ∧ ∃ N : L2.St → Hp → Prop, (∀ σ' H', N σ' H' → ∃ m', m' < m ∧ Wk (i + 1) m' σ' H') ∧ ∀ x H', J.yld i H x H' → g' x σ H' fun σ2 H2 => tb { Dn with nx := N, ct := N, bk := Dn.nx } σ2 H2) := by
  refine for_it wk (fun i σ H2 => ∃ S2 g2, KR K si ti S0 H0 S2 H2 σ g2 ∧ Same S S2 ∧ PostK K si ti S0 H0 (forK bb body si ti (ds.drop i) g2) Dn) ⟨S, g, R, Same.refl _, by simpa using z⟩ ?_ ?_ ?_
  · rintro i σ H2 hi ⟨S2, g2, R2, ss, _⟩
    exact hG H2 (ss.trans R2.gr.sh)
  · rintro i x σ H2 H3 hi ⟨S2, g2, R2, ss, zz⟩ hy
    have hdi : ds[i]? = some ds[i] := List.getElem?_eq_getElem hi
    obtain ⟨s23, rs, rp⟩ := hY i H2 x H3 S2 _ (ss.trans R2.gr.sh) ss R2.gr.sh hdi hy
    rw [List.drop_eq_getElem_cons hi] at zz
    unfold forK at zz
    have R3 : KR K si ti S0 H0 S2 H3 σ g2 := R2.grow ((Grow.refl R2.gr.sh).more s23)
    cases kb : (bb ds[i] g2.ρ).nox with
    | no => rw [kb] at zz; exact zz.elim
    | ex c0 f0 => exact absurd kb (nox_noex _ _ _)
    | ok ρ3 =>
      rw [kb] at zz
      simp only at zz
      by_cases ho : okS si ti ρ3 = true
      · simp only [ho, if_true] at zz
        obtain ⟨L, v0, vs, R3⟩ := R3
        obtain ⟨H0x, Rx, back⟩ := R3.frame
        refine hb _ _ S2 H0x S2 H3 σ g2.ρ ρ3 x _ rs _ Rx rp (nox_ok kb) fun σ1 R1 => ?_
        have R4 : KR K si ti S0 H0 S2 H3 σ1 { g2 with ρ := ρ3 } := ⟨L, v0, vs, back _ _ _ _ R1 ho⟩
        refine qb S (upE H0 S) S2 H3 σ1 { g2 with ρ := ρ3 } _ (kr_up R4 R.gr.ss ss) ?_
        cases kf : body { g2 with ρ := ρ3 } with
        | no => rw [kf] at zz; exact zz.elim
        | rt d ρ => rw [kf] at zz; exact zz.elim
        | nx g4 =>
          rw [kf] at zz
          exact fun S4 H4 σ4 R5 => ⟨S4, g4, kr_down R.gr R5, R5.gr.ss, zz⟩
      · simp only [ho] at zz
        exact zz.elim
  · rintro σ H2 ⟨S2, g2, R2, ss, zz⟩
    rw [List.drop_length] at zz
    exact zz S2 H2 σ R2
theorem ks_for {g' : TG} (hp : PassesOwn (model X.prog X.w) X.A X.env X.xe) (hc : X.calm = true) (hi : DI true cl X W tg iter it) (hg : PG X tg g') (hb : ∀ a b : Option V, SG X.K (pinK si a ti b) g' bb) (hbd : KSs X si ti body F)
    (hs : ∀ x, foldedSetIterable iter X.env x = pure x := by intro _; rfl) : KS X si ti (.For tg iter body [] pos) (kFor si ti it bb F) := by
  obtain ⟨wi, pi, qi⟩ := hi.pf
  obtain ⟨tb, pb, qb⟩ := hbd.pf
  refine ⟨_, ps_for hp hc pi hg pb hs, fun S0 H0 S H σ g Dn R z => qi σ (g.vw si ti) S H _ R.look R.gr.sh ?_⟩
  unfold kFor at z
  cases k1 : it (g.vw si ti) with
  | no => rw [k1] at z; exact z
  | ex c' fs => rw [k1] at z; exact z.elim
  | ok ds =>
    rw [k1] at z
    intro J S' H' G Y g1 wk hG hY
    exact for_runK hb qb (R.grow g1) wk hG hY z
theorem ks_ret (ho : DPl cl X W e si (pIx si (pHere si) (eC (.int 0)))) : KS X si ti (.Return (some e) pos) kRet := by
  obtain ⟨t, pt, q⟩ := ho.pf
  refine ⟨_, ps_ret pt, fun S0 H0 S H σ g Dn R z => ?_⟩
  obtain ⟨L, v0, vs, R⟩ := R
  refine q σ (g.vw si ti) S H _ R.look R.gr.sh ?_
  unfold kRet at z
  cases k : g.qs with
  | nil => rw [k] at z; exact z.elim
  | cons q0 qr =>
    rw [k] at z
    cases q0 with
    | cons _ _ => exact z.elim
    | nil =>
    have hsl : si < g.ρ.length := (List.getElem?_eq_some_iff.mp R.ns).1
    have hv := vw_si (g := g) R.ne hsl
    have hg : get (g.vw si ti) si = .ok (.lst true (g.qs.map (nodeD g.T))) := by unfold get; rw [hv]
    have hpl : pIx si (pHere si) (eC (.int 0)) (g.vw si ti) = .ok [0] := by
      have e1 : pHere si (g.vw si ti) = .ok [] := by unfold pHere; rw [hg]; rfl
      have e2 : partAt (g.vw si ti) si [] = .ok (.lst true (g.qs.map (nodeD g.T))) := by unfold partAt; rw [hg]; rfl
      have e3 : ixD (g.qs.map (nodeD g.T)).length 0 = some 0 := by
        rw [k]; simp [ixD]
      unfold pIx
      rw [e1]
      show ((partAt (g.vw si ti) si []).bind _) = _
      rw [e2]
      show ((Res.of (ixD (g.qs.map (nodeD g.T)).length 0)).bind fun j => Res.ok ([] ++ [j])) = _
      rw [e3]; rfl
    rw [hpl]
    intro v w0 S' H' gg hw hva
    rw [R.sg] at hw; cases hw
    have R1 := R.grow gg
    obtain ⟨aa, us, v1, h1, h2, h3, h4⟩ := hva
    cases h1
    have := h2.det (.inl R1.lst)
    subst this
    have h4 : v1 = v := h4
    subst h4
    obtain ⟨v', a1, a2, a3⟩ := R1.pt.at_ 0 [] (by rw [k]; rfl)
    rw [h3] at a1; cases a1
    have e5 : v0 = v1 := a2
    subst e5
    refine z v0 S' H' σ ?_
    obtain ⟨ps, it, nd, fr⟩ := R1.rl.it
    refine ⟨(fun _ _ z => nomatch z), R1.gr, ps, it, nd, fun p hp => ⟨?_, (fr p hp).2⟩⟩
    have y := (fr p hp).1
    by_cases e6 : p = L
    · rw [e6, upd_same] at y; cases y
    · rwa [upd_ne e6] at y
theorem dss_stk (h : KSs X si ti rest F) : DSs cl Pn0 X W rest (sStk si ti F) := by
  obtain ⟨t, pt, q⟩ := h.pf
  refine ⟨t, pt, fun S0 H0 S H σ ρ Dn R z => ?_⟩
  unfold sStk at z
  rcases get_cases ρ si with eg | ⟨d0, eg⟩
  · rw [eg] at z; exact z.elim
  · rw [eg] at z
    have eg' := get_some eg
    cases d0 with
    | lst ow xs =>
      cases ow with
      | false => exact z.elim
      | true =>
        match xs with
        | [] => exact z.elim
        | _ :: _ :: _ => exact z.elim
        | [T] =>
          simp only at z
          cases et : ρ[ti]? with
          | none => rw [et] at z; exact z.elim
          | some x =>
            cases x with
            | some _ => rw [et] at z; exact z.elim
            | none =>
              rw [et] at z
              simp only at z
              by_cases hne : si ≠ ti
              · rw [if_pos hne] at z
                obtain ⟨ps, it, nd, fr⟩ := R.it
                obtain ⟨v, qs, ps', h1, h2, h3, h4, h5⟩ := it.pick si eg'
                obtain ⟨n1, n2, n3⟩ := h5 nd
                cases h2 with
                | @lstO L vs _ qs1 hl ra =>
                obtain ⟨v0, rfl, rp⟩ := ra.one
                have mem : ∀ p ∈ L :: qs1, p ∈ ps := fun p hp => (h4 p).mpr (.inr hp)
                have frL := fr L (mem L (List.mem_cons_self ..))
                have sL := frL.2
                obtain ⟨k1, k2⟩ := List.nodup_cons.mp n2
                have hsi : si < ρ.length := (List.getElem?_eq_some_iff.mp eg').1
                have kr : KR X.K si ti S0 H0 S H σ ⟨ρ.set si none, T, [[]], none⟩ := by
                  refine ⟨L, v0, [v0], ⟨frL.1, none_back R.gr.ss sL, ⟨(fun _ _ z => nomatch z), ⟨fun b o hb => ?_, R.gr.ss, R.gr.sh, fun b o h6 h7 => ?_⟩, ps' ++ qs1, h3.more rp, List.nodup_append.mpr ⟨n1, k2, fun a ha b hb zz => n3 b (by rw [← zz]; exact ha) (List.mem_cons_of_mem _ hb)⟩, fun p hp => ?_⟩, h1, by simp [hsi], by
                    show (ρ.set si none)[ti]? = _
                    rw [List.getElem?_set_ne hne]; exact et, hne, ⟨rfl, fun j q hq => ?_⟩, fun q hq => by cases hq⟩⟩
                  · by_cases e : b = L
                    · rw [e, upd_same] at hb; cases hb
                      rw [e]; exact hl
                    · rw [upd_ne e] at hb; exact R.gr.hh b o hb
                  · have hb : b ≠ L := fun zz => by rw [zz, sL] at h6; cases h6
                    rw [upd_ne hb]; exact R.gr.nw b o h6 h7
                  · have hp2 : p ∈ ps := (List.mem_append.mp hp).elim (fun y => (h4 p).mpr (.inl y)) fun y => mem p (List.mem_cons_of_mem _ y)
                    have hpL : p ≠ L := fun zz => by
                      rcases List.mem_append.mp hp with y | y
                      · exact n3 p y (by rw [zz]; exact List.mem_cons_self ..)
                      · exact k1 (zz ▸ y)
                    exact ⟨by rw [upd_ne hpL]; exact (fr p hp2).1, (fr p hp2).2⟩
                  · cases j with
                    | succ j => simp at hq
                    | zero =>
                      simp at hq
                      subst hq
                      exact ⟨v0, rfl, rfl, T, rfl⟩
                refine q S0 H0 S H σ _ Dn kr ?_
                cases kf : F ⟨ρ.set si none, T, [[]], none⟩ with
                | no => rw [kf] at z; exact z
                | nx g => rw [kf] at z; exact z.elim
                | rt d ρ' => rw [kf] at z; exact z
              · rw [if_neg hne] at z; exact z.elim
    | _ => exact z.elim
end
end G
set_option maxHeartbeats 1000000
namespace G
open PySem PySem.Spec PyProof.Rows L2
def Cp1 (H : Hp) (w : V) (Q : VK) : Prop := (∃ b xs, w = .ref b ∧ H b = some (.lst xs) ∧ ∀ n, H n = none → Q (.ref n) (upd H n (.lst xs))) ∨ (w = .non ∧ Q .non H)
def spCp : Sp := fun vs H Q _ => ∃ w, vs = [w] ∧ Cp1 H w Q
def spC3 (C : Addr) (n1 n2 n3 : Str) : Sp := fun vs H Q _ => ∃ a dx w1 w2 w3, vs = [.ref a, w1, w2, w3] ∧ H a = some (.ins C dx []) ∧ Cp1 H w1 fun y1 H1 => Cp1 (upd H1 a (.ins C dx [(n1, y1)])) w2 fun y2 H2 => Cp1 (upd H2 a (.ins C dx [(n1, y1), (n2, y2)])) w3 fun y3 H3 => Q .non (upd H3 a (.ins C dx [(n1, y1), (n2, y2), (n3, y3)]))
section
variable {X : Cx} {o o2 o3 bT : Expr} {x1 x2 : Str} {p p2 pos pos2 pos3 pos4 pos5 : Pos}
theorem pss_cp (hgi : Gl X "isinstance") (hmi : X.mg "isinstance" = none) (ht : PE X bT (tC (.ty "list"))) (hgl : Gl X "list") (hml : X.mg "list" = none) (h1 : PE X o (tVar 0)) (h2 : PE X o2 (tVar 0)) (h3 : PE X o3 (tVar 0))
    (he : ∀ whole, isTrue (.Call (.Name "isinstance" p) [o, bT] [] pos) X.env whole = (do let v ← whole; standAt (Expr.Call (.Name "isinstance" p) [o, bT] [] pos).pos; holding [v] (truthy v)) := by intro _; rfl)
    (hs : starEach [o, bT] X.env = (false, eval o X.env) :: starEach [bT] X.env := by rfl) (hs2 : starEach [bT] X.env = [(false, eval bT X.env)] := by rfl) (hpl : (backTo pos (starEach [bT] X.env)).any (·.1) = false := by rfl) (hs3 : starEach [o2] X.env = [(false, eval o2 X.env)] := by rfl) :
    ∃ t, PSs X [.If (.Call (.Name "isinstance" p) [o, bT] [] pos) [.Return (some (.Call (.Name "list" p2) [o2] [] pos2)) pos3] [] pos4, .Return (some o3) pos5] t ∧ ∀ (Dn : Ends) σ H w, σ[0]? = some (some w) → Cp1 H w Dn.rt → t Dn σ H := by
  refine ⟨_, pss_cons (ps_if (pt_val (pe_callB call_isi hgi hmi (by decide +kernel) (pa_cons h1 (pa_cons ht pa_nil hs2) hs) (by decide) (by decide) hs hpl) he) (pss_one (ps_ret (pe_callTy call_list_of hgl hml (by decide +kernel) (pa_cons h2 pa_nil hs3) (by decide) (by decide) hs3))) pss_nil) (pss_one (ps_ret h3)), fun Dn σ H w hw hc => ?_⟩
  rcases hc with ⟨b, xs, rfl, hb, hq⟩ | ⟨rfl, hq⟩
  · refine ⟨.ref b, hw, ⟨_, _, _, _, true, rfl, .ty _, .base (.lst hb), kit_ty (show kitB "list" "list" = some true by decide +kernel), ?_⟩⟩
    exact ⟨true, rfl, .ref b, hw, ⟨b, xs, rfl, .inl (.inl (.inl hb)), fun n hn => hq n hn⟩⟩
  · refine ⟨.non, hw, ⟨_, _, _, _, false, rfl, .ty _, .base .non, kit_ty (show kitB "NoneType" "list" = some false by decide +kernel), ?_⟩⟩
    exact ⟨false, rfl, .non, hw, hq⟩
end
section
variable {P : Program} {w : World} {K : PySem.W.Frag} {mg : Str → Option Value} {base : Heap} {x qual : Str} {st : Stmt} {fA : Addr} {fd : FuncData} {k : Nat}
theorem fn_cp (Fn : Fun K x qual st fA fd) {N ps : List Str} (Sc : FnScope N ps (defScope st)) (hps : ps.length = 1 := by rfl) (hN : N.length = 1 := by rfl)
    (hbody : ∀ (cdv : Value) (A : Around) (outer : List PySem.Env) (s : Shared) (H : Hp) (E : XK), ∃ t, PSs (cxOf (L2.CX P w) P w K mg base N qual (defScope st) fA cdv A outer s H E) (defBody st) t ∧ ∀ (Dn : Ends) σ H w, σ[0]? = some (some w) → Cp1 H w Dn.rt → t Dn σ H) :
    FnOk P w K mg base (L2.CX P w) (k + 1) fA fd ps spCp := by
  refine Fn.okX Sc (fun vs H Q E h => ?_) (fun cdv A outer s H vs Q E hr h => ?_)
  · obtain ⟨v, rfl, _⟩ := h
    rw [hps]; rfl
  · obtain ⟨v, rfl, hc⟩ := h
    obtain ⟨t, pt, q⟩ := hbody cdv A outer s H E
    exact ⟨t, pt, q _ _ _ v rfl hc⟩
theorem fn_c3 {C : Addr} {n1 n2 n3 : Str} {dvs : List V} (Fn : FunD K x qual (defArgs st) (defBody st) (defScope st) dvs [] fA fd) {N ps : List Str} (Sc : FnScope N ps (defScope st)) (hps : ps.length = 4 := by rfl) (hN : N.length = 4 := by rfl)
    (hbody : ∀ (cdv : Value) (A : Around) (outer : List PySem.Env) (s : Shared) (H : Hp) (E : XK), Room k (A.deeper (PyProof.Rows.envOfC qual (defScope st) s.heap.objs.size fA cdv)) →
      ∃ t, PSs (cxOf (L2.CX P w) P w K mg base N qual (defScope st) fA cdv A outer s H E) (defBody st) t ∧ ∀ (Dn : Ends) σ H vs, σ = vs.map some → spC3 C n1 n2 n3 vs H (fun _ H' => Dn.nx σ H') E → t Dn σ H) :
    FnOk P w K mg base (L2.CX P w) (k + 1) fA fd ps (spC3 C n1 n2 n3) := by
  refine Fn.ok Sc (fun vs H Q E h => ?_) (fun cdv A outer s H vs Q E hr h => ?_)
  · obtain ⟨a, dx, w1, w2, w3, rfl, _⟩ := h
    rw [hps]; rfl
  · have h0 := h
    obtain ⟨a, dx, w1, w2, w3, rfl, h1, hc⟩ := h
    obtain ⟨t, pt, q⟩ := hbody cdv A outer s H E hr
    refine ⟨t, pt, q _ _ _ [.ref a, w1, w2, w3] (by simp [L2.start, hN]) ?_⟩
    exact h0
end
section
variable {X : Cx} {o1 o2 o3 e1 e2 e3 : Expr} {x n1 n2 n3 : Str} {a1 a2 a3 p1 p2 p3 q1 q2 q3 s1 s2 s3 : Pos} {k : Nat} {fA C : Addr} {fd : FuncData} {ps : List Str} {W : WX} {E : XK}
theorem pss_c3 (F : FnOk X.prog X.w X.K X.mg X.base (L2.CX X.prog X.w) k fA fd ps spCp) (hr : Room k X.A) (hg : Gl X x) (hm : X.mg x = some (.ref fA)) (hk : PySem.W.keepIn X.K (.ref fA) = true) (hb : Binds X.K fd ps []) (tk : Takes X W)
    (hC : Cls X.K C) (m1 : NoAttr X.K C n1) (m2 : NoAttr X.K C n2) (m3 : NoAttr X.K C n3) (d12 : n1 ≠ n2) (d13 : n1 ≠ n3) (d23 : n2 ≠ n3)
    (i1 : PE X o1 (tVar 0)) (i2 : PE X o2 (tVar 0)) (i3 : PE X o3 (tVar 0)) (j1 : PE X e1 (tVar 1)) (j2 : PE X e2 (tVar 2)) (j3 : PE X e3 (tVar 3)) (hdb : (x == ("__debug__" : Str)) = false := by decide)
    (k1 : starEach [e1] X.env = (false, eval e1 X.env) :: starEach [] X.env := by rfl) (k2 : starEach [e2] X.env = (false, eval e2 X.env) :: starEach [] X.env := by rfl) (k3 : starEach [e3] X.env = (false, eval e3 X.env) :: starEach [] X.env := by rfl)
    (l1 : (backTo q1 (starEach [] X.env)).any (·.1) = false := by rfl) (l2 : (backTo q2 (starEach [] X.env)).any (·.1) = false := by rfl) (l3 : (backTo q3 (starEach [] X.env)).any (·.1) = false := by rfl)
    (u1 : swapsWith (.Call (.Name x p1) [e1] [] q1) (some (.Attribute o1 n1 a1)) s1.line X.env = pure false := by rfl) (u2 : swapsWith (.Call (.Name x p2) [e2] [] q2) (some (.Attribute o2 n2 a2)) s2.line X.env = pure false := by rfl) (u3 : swapsWith (.Call (.Name x p3) [e3] [] q3) (some (.Attribute o3 n3 a3)) s3.line X.env = pure false := by rfl) :
    ∃ t, PSs X [.Assign [.Attribute o1 n1 a1] (.Call (.Name x p1) [e1] [] q1) s1, .Assign [.Attribute o2 n2 a2] (.Call (.Name x p2) [e2] [] q2) s2, .Assign [.Attribute o3 n3 a3] (.Call (.Name x p3) [e3] [] q3) s3] t ∧
      ∀ (Dn : Ends) σ H vs, σ = vs.map some → spC3 C n1 n2 n3 vs H (fun _ H' => Dn.nx σ H') E → t Dn σ H := by
  refine ⟨_, pss_cons (ps_fld i1 (pe_callS F hr hg hm hk hb (fun σ => passAt tk σ) (pa_cons j1 pa_nil k1) hdb k1 l1) u1) (pss_cons (ps_fld i2 (pe_callS F hr hg hm hk hb (fun σ => passAt tk σ) (pa_cons j2 pa_nil k2) hdb k2 l2) u2) (pss_one (ps_fld i3 (pe_callS F hr hg hm hk hb (fun σ => passAt tk σ) (pa_cons j3 pa_nil k3) hdb k3 l3) u3))), fun Dn σ H vs hσ hc => ?_⟩
  obtain ⟨a, dx, w1, w2, w3, rfl, hH, hc⟩ := hc
  subst hσ
  have imp : ∀ {H : Hp} {w : V} {Q Q' : VK}, (∃ oo, H a = some oo) → Cp1 H w Q → (∀ y H', H' a = H a → Q y H' → Q' y H') → Cp1 H w Q' := fun {H w Q Q'} ⟨oo, ho⟩ h g => by
    rcases h with ⟨b, xs, e, hb, hq⟩ | ⟨e, hq⟩
    · refine .inl ⟨b, xs, e, hb, fun n hn => g _ _ ?_ (hq n hn)⟩
      refine upd_ne fun z => ?_
      subst z; rw [ho] at hn; cases hn
    · exact .inr ⟨e, g _ _ rfl hq⟩
  have f1 : ∀ y : V, putF n1 y [] = [(n1, y)] := fun y => rfl
  have f2 : ∀ y1 y : V, putF n2 y [(n1, y1)] = [(n1, y1), (n2, y)] := fun y1 y => by simp [putF, d12]
  have f3 : ∀ y1 y2 y : V, putF n3 y [(n1, y1), (n2, y2)] = [(n1, y1), (n2, y2), (n3, y)] := fun y1 y2 y => by simp [putF, d13, d23]
  refine ⟨w1, rfl, w1, rfl, imp ⟨_, hH⟩ hc fun y1 H1 g1 hc1 => ⟨.ref a, rfl, a, C, dx, [], rfl, g1.trans hH, hC, m1, by simp, ?_⟩⟩
  rw [f1]
  refine ⟨w2, rfl, w2, rfl, imp ⟨_, upd_same⟩ hc1 fun y2 H2 g2 hc2 => ⟨.ref a, rfl, a, C, dx, [(n1, y1)], rfl, g2.trans upd_same, hC, m2, by simp, ?_⟩⟩
  rw [f2]
  refine ⟨w3, rfl, w3, rfl, imp ⟨_, upd_same⟩ hc2 fun y3 H3 g3 hc3 => ⟨.ref a, rfl, a, C, dx, [(n1, y1), (n2, y2)], rfl, g3.trans upd_same, hC, m3, by simp, ?_⟩⟩
  rw [f3]
  exact hc3
end
end G
set_option maxHeartbeats 1000000
namespace G
open PySem PySem.Spec PyProof.Rows L2
section
variable {K : PySem.W.Frag} {S H1 Hc : Hp}
theorem cp_step {w : V} {d d' : D} {qs : List Addr} {Q : VK} (sS : Same S H1) (sm : Same H1 Hc) (r : Rp K S H1 w d qs) (e : cpD d = some d')
    (h : ∀ y Hn zs, Same Hc Hn → Rp K S Hn y d' zs → zs.Nodup → (∀ p ∈ zs, Hc p = none) → Q y Hn) : Cp1 Hc w Q := by
  cases d with
  | lst o xs =>
    simp only [cpD] at e
    split at e
    · rename_i hs
      cases e
      obtain ⟨l1, v1, q1, rfl, h1, r1⟩ := r.lst sS
      refine .inl ⟨l1, v1, rfl, sm _ _ h1, fun n hn => ?_⟩
      obtain ⟨e0, r0⟩ := r1.sh hs
      exact h _ _ [n] (same_new hn) (.lstO upd_same (r0 _)) (by simp) (fun p hp => by cases List.mem_singleton.mp hp; exact hn)
    · cases e
  | non =>
    cases e
    cases r
    exact .inr ⟨rfl, h _ _ [] (Same.refl _) .non List.nodup_nil (fun _ z => nomatch z)⟩
  | _ => simp [cpD] at e
end
section
variable {cl : Cl} {X : Cx} {W : WX} {e : Expr} {es : List Expr} {fs : List E} {p pos : Pos} {k : Nat} {fA : Addr} {fd : FuncData} {ps : List Str} {x : Str}
theorem de_makeC {c n1 n2 n3 : String} {N1 N2 N3 : Str} {dvs : List V} {ds0 : List Value} (dds : List D) (e1 : N1 = Str.ofString n1) (e2 : N2 = Str.ofString n2) (e3 : N3 = Str.ofString n3) (hx : "!" ∉ [n1, n2, n3]) (hM : mkB X.K c fA = true)
    (F : FnOk X.prog X.w X.K X.mg X.base (L2.CX X.prog X.w) k fA fd ps (spC3 (clK X.K c) N1 N2 N3)) (hr : Room (k + 1) X.A) (hg : Gl X x) (hm : X.mg x = some (.ref (clK X.K c))) (hb : Binds X.K fd ps ds0) (hd : Vals dvs ds0) (hdd : ∀ S H, RpAll X.K S H dvs dds [])
    (ha : DA cl X W (e :: es) fs) (hdb : (x == ("__debug__" : Str)) = false := by decide) (he : starEach (e :: es) X.env = (false, eval e X.env) :: starEach es X.env := by rfl) (hpl : (backTo pos (starEach es X.env)).any (·.1) = false := by rfl) :
    DE cl X W (.Call (.Name x p) (e :: es) [] pos) (eMakeC c n1 n2 n3 dds fs) := by
  obtain ⟨t, pt, q⟩ := ha.pf
  refine ⟨_, pe_make (mkB_ok hM) F hr hg hm hb hd passL pt hdb he hpl, fun σ ρ S H Q l s z => q σ ρ S H _ l s ?_⟩
  subst e1; subst e2; subst e3
  unfold eMakeC at z
  cases ka : eArgs fs ρ with
  | no => rw [ka] at z; exact z
  | ex c' fs' => rw [ka] at z; exact z
  | ok ds =>
    rw [ka] at z
    simp only [Res.bind] at z
    intro vs S1 H1 qs g1 ra a dx hax hdx hne
    have raa := ra.append (hdd S1 H1)
    rw [List.append_nil] at raa
    generalize hD : ds ++ dds = DD at z raa
    generalize hV : vs ++ dvs = VV at raa
    split at z
    rotate_left
    · exact z.elim
    rename_i da db dd
    cases c1 : cpD da with
    | none => simp only [c1] at z; exact z.elim
    | some x1 =>
    cases c2 : cpD db with
    | none => simp only [c1, c2] at z; exact z.elim
    | some x2 =>
    cases c3 : cpD dd with
    | none => simp only [c1, c2, c3] at z; exact z.elim
    | some x3 =>
    simp only [c1, c2, c3] at z
    cases raa with
    | @cons w1 _ _ _ p1 _ r1 raa =>
    cases raa with
    | @cons w2 _ _ _ p2 _ r2 raa =>
    cases raa with
    | @cons w3 _ _ _ p3 _ r3 raa =>
    cases raa
    have hH0 : upd H1 dx (.own a) a = none := by rw [upd_ne (fun z => hne z.symm)]; exact hax
    have s01 : Same H1 (upd H1 dx (.own a)) := same_new hdx
    have sA : ∀ {H' : Hp} {o : HO}, Same H1 H' → Same H1 (upd H' a o) := fun h => same_set h hax
    refine ⟨a, dx, w1, w2, w3, rfl, upd_same, ?_⟩
    refine cp_step g1.sh (sA s01) r1 c1 fun y1 Hn1 z1 m1 q1 nd1 fr1 => ?_
    have ha1 : ∃ oo, Hn1 a = some oo := ⟨_, m1 _ _ upd_same⟩
    have na1 : a ∉ z1 := fun h => by have := fr1 a h; rw [upd_same] at this; cases this
    have t1 : Same H1 (upd Hn1 a (.ins (clK X.K c) dx [(Str.ofString n1, y1)])) := sA ((sA s01).trans m1)
    refine cp_step g1.sh t1 r2 c2 fun y2 Hn2 z2 m2 q2 nd2 fr2 => ?_
    have na2 : a ∉ z2 := fun h => by have := fr2 a h; rw [upd_same] at this; cases this
    have t2 : Same H1 (upd Hn2 a (.ins (clK X.K c) dx [(Str.ofString n1, y1), (Str.ofString n2, y2)])) := sA (t1.trans m2)
    refine cp_step g1.sh t2 r3 c3 fun y3 Hn3 z3 m3 q3 nd3 fr3 => ?_
    have na3 : a ∉ z3 := fun h => by have := fr3 a h; rw [upd_same] at this; cases this
    have t3 : Same H1 (upd Hn3 a (.ins (clK X.K c) dx [(Str.ofString n1, y1), (Str.ofString n2, y2), (Str.ofString n3, y3)])) := sA (t2.trans m3)
    have Q1 := (((((q1.set (o := .ins (clK X.K c) dx [(Str.ofString n1, y1)]) na1).mono (Same.refl _) m2).set (o := .ins (clK X.K c) dx [(Str.ofString n1, y1), (Str.ofString n2, y2)]) na1).mono (Same.refl _) m3).set (o := .ins (clK X.K c) dx [(Str.ofString n1, y1), (Str.ofString n2, y2), (Str.ofString n3, y3)]) na1)
    have Q2 := ((q2.set (o := .ins (clK X.K c) dx [(Str.ofString n1, y1), (Str.ofString n2, y2)]) na2).mono (Same.refl _) m3).set (o := .ins (clK X.K c) dx [(Str.ofString n1, y1), (Str.ofString n2, y2), (Str.ofString n3, y3)]) na2
    have Q3 := q3.set (o := .ins (clK X.K c) dx [(Str.ofString n1, y1), (Str.ofString n2, y2), (Str.ofString n3, y3)]) na3
    have back1 : ∀ p ∈ z1, H1 p = none := fun p hp => none_back (sA s01) (fr1 p hp)
    have back2 : ∀ p ∈ z2, H1 p = none := fun p hp => none_back t1 (fr2 p hp)
    have back3 : ∀ p ∈ z3, H1 p = none := fun p hp => none_back t2 (fr3 p hp)
    have sn : ∀ p, H1 p = none → S1 p = none := fun p hp => none_back g1.sh hp
    have d12 : ∀ p ∈ z1, p ∉ z2 := fun p hp hq => by
      obtain ⟨oo, ho⟩ := q1.there p hp
      have := fr2 p hq
      rw [upd_ne (fun z => by subst z; exact na1 hp)] at this
      rw [ho] at this; cases this
    have d13 : ∀ p ∈ z1, p ∉ z3 := fun p hp hq => by
      obtain ⟨oo, ho⟩ := q1.there p hp
      have := fr3 p hq
      have hne : p ≠ a := fun z => by subst z; exact na1 hp
      rw [upd_ne hne] at this
      have h2 := none_back m2 this
      rw [upd_ne hne, ho] at h2; cases h2
    have d23 : ∀ p ∈ z2, p ∉ z3 := fun p hp hq => by
      obtain ⟨oo, ho⟩ := q2.there p hp
      have := fr3 p hq
      rw [upd_ne (fun z => by subst z; exact na2 hp)] at this
      rw [ho] at this; cases this
    refine ⟨rfl, z (.ref a) S1 _ (a :: (z1 ++ (z2 ++ (z3 ++ [])))) ⟨g1.hh.trans t3, g1.ss, g1.sh.trans t3, g1.nw⟩ ⟨?_, fun b hb => ?_⟩ (.insO (fv := [(Str.ofString n1, y1), (Str.ofString n2, y2), (Str.ofString n3, y3)]) upd_same ⟨rfl, hx⟩ (.cons Q1 (.cons Q2 (.cons Q3 .nil))))⟩
    · rw [List.append_nil]
      refine List.nodup_cons.mpr ⟨fun h => ?_, List.nodup_append.mpr ⟨nd1, List.nodup_append.mpr ⟨nd2, nd3, fun a ha b hb z => d23 a ha (z ▸ hb)⟩, fun a ha b hb z => ?_⟩⟩
      · rcases List.mem_append.mp h with h | h
        · exact na1 h
        · exact (List.mem_append.mp h).elim na2 na3
      · subst z
        exact (List.mem_append.mp hb).elim (d12 a ha) (d13 a ha)
    · rw [List.append_nil] at hb
      have : H1 b = none := by
        rcases List.mem_cons.mp hb with h | h
        · subst h; exact hax
        · rcases List.mem_append.mp h with h | h
          · exact back1 b h
          · exact (List.mem_append.mp h).elim (back2 b) (back3 b)
      exact ⟨none_back g1.hh this, sn b this⟩
end
def itB (K : PySem.W.Frag) (t : Ty) (tab : List (String × Bool)) : Bool := tab.all fun x => insB K x.1 && (PySem.W.kitOne K (.ref (clK K x.1)) (.type t.nm) == some x.2)
theorem it_ins {K : PySem.W.Frag} {t : Ty} {c : String} {b : Bool} {tab : List (String × Bool)} (h : itB K t tab = true) (hc : tab.lookup c = some b) : insB K c = true ∧ PySem.W.kitOne K (.ref (clK K c)) (.type t.nm) = some b := by
  have := List.all_eq_true.mp h _ (lookup_mem hc)
  simp only [Bool.and_eq_true, beq_iff_eq] at this
  exact this
section
variable {cl : Cl} {X : Cx} {W : WX} {a b : Expr} {f : E} {p pos py : Pos} {x : Str}
theorem o_isTI {t : Ty} {tab : List (String × Bool)} (h : itB X.K t tab = true) : Op1 X (fun v => rIsi X.K [v, .ty t.nm]) (fIsTI t tab) := by
  intro S H x dx d ps Q s rx e k
  cases rx with
  | xcp q hx =>
    simp only [fIsTI] at e
    rename_i a c fs vs dd
    have : fs.contains "!" = true := by rcases hx with ⟨rfl, _⟩ | ⟨_, _, _, _, rfl, _⟩ <;> simp
    rw [this] at e; simp at e
  | @insS a dx' c fs fv ds q k2 r z =>
    simp only [fIsTI] at e
    have hx : fs.contains "!" = false := by simpa using k2.2
    rw [hx] at e
    simp only [Bool.false_eq_true, if_false] at e
    cases hc : tab.lookup c with
    | none => rw [hc] at e; cases e
    | some b =>
      rw [hc] at e; cases e
      obtain ⟨i1, i2⟩ := it_ins h hc
      exact ⟨_, _, _, _, b, rfl, .ty _, ins_ty i1 (s _ _ q), i2, newV s (.bl _) k⟩
  | @insO a dx' c fs fv ds ps q k2 r =>
    simp only [fIsTI] at e
    have hx : fs.contains "!" = false := by simpa using k2.2
    rw [hx] at e
    simp only [Bool.false_eq_true, if_false] at e
    cases hc : tab.lookup c with
    | none => rw [hc] at e; cases e
    | some b =>
      rw [hc] at e; cases e
      obtain ⟨i1, i2⟩ := it_ins h hc
      exact ⟨_, _, _, _, b, rfl, .ty _, ins_ty i1 q, i2, newV s (.bl _) k⟩
  | non => exact o_isT t S H _ _ d _ Q s .non e k
  | bl b => exact o_isT t S H _ _ d _ Q s (.bl b) e k
  | int b => exact o_isT t S H _ _ d _ Q s (.int b) e k
  | str b hb => exact o_isT t S H _ _ d _ Q s (.str b hb) e k
  | scr ns q => exact o_isT t S H _ _ d _ Q s (.scr ns q) e k
  | dicS q k2 r z => exact o_isT t S H _ _ d _ Q s (.dicS q k2 r z) e k
  | dlk q k2 r z => exact o_isT t S H _ _ d _ Q s (.dlk q k2 r z) e k
  | dicO q k2 r => exact o_isT t S H _ _ d _ Q s (.dicO q k2 r) e k
  | lstS q r z => exact o_isT t S H _ _ d _ Q s (.lstS q r z) e k
  | lstO q r => exact o_isT t S H _ _ d _ Q s (.lstO q r) e k
  | tupS q r z => exact o_isT t S H _ _ d _ Q s (.tupS q r z) e k
  | tupO q r => exact o_isT t S H _ _ d _ Q s (.tupO q r) e k
theorem de_isTI (t : Ty) {tab : List (String × Bool)} (h : itB X.K t tab = true) {x y : Str} {py : Pos} (ht : PE X b (tC (.ty t.nm))) (hg : Gl X "isinstance") (hm : X.mg "isinstance" = none) (ha : DO cl X W a f)
    (hs : starEach [a, b] X.env = (false, eval a X.env) :: starEach [b] X.env := by rfl) (hs2 : starEach [b] X.env = [(false, eval b X.env)] := by rfl) (hpl : (backTo pos (starEach [b] X.env)).any (·.1) = false := by rfl) : DE cl X W (.Call (.Name "isinstance" p) [a, b] [] pos) (e1 (fIsTI t tab) f) :=
  de_1 (r := fun v => rIsi X.K [v, .ty t.nm]) (fun ta pa => pe_callB call_isi hg hm (by decide +kernel) (pa_cons pa (pa_cons ht pa_nil hs2) hs) (by decide) (by decide) hs hpl) (o_isTI h) ha
end
def rEqE : R2 := fun x y H Q => ∃ a b xs, x = .ref a ∧ y = .ref b ∧ H a = some (.lst xs) ∧ H b = some (.lst []) ∧ Q (.bl xs.isEmpty) H
section
variable {cl : Cl} {X : Cx} {W : WX} {a b : Expr} {f g : E} {pos : Pos}
theorem op_eqE (hu1 : X.A.units + 1 < cLine) : OpR X (compareOp .Eq) rEqE := by
  intro pins s σ H x y v u Q I rx ry h
  have hu := Nat.lt_of_succ_lt hu1
  obtain ⟨a, b, xs, rfl, rfl, ha, hb, q⟩ := h
  obtain rfl : v = Value.ref a := rx
  obtain rfl : u = Value.ref b := ry
  obtain ⟨us, r1, p1, _⟩ := I.list (.inl (.inl ha))
  obtain ⟨ws, r2, p2, _⟩ := I.list (.inl (.inl hb))
  have l1 := r1.length
  have l2 := r2.length
  cases ws with
  | cons w ws => simp at l2
  | nil =>
  cases xs with
  | nil =>
    cases us with
    | cons w us => simp at l1
    | nil => exact SeqAt.RcAt.lists (e := fun _ => true) p1.isList p2.isList rfl hu (fun j h1 h2 => by simp at h1) _ _ _ _ ⟨.bl true, H, I, rfl, q⟩
  | cons x xs =>
    cases us with
    | nil => simp at l1
    | cons w us => exact SeqAt.RcAt.lists_lengths p1.isList p2.isList (by simp) hu _ _ _ _ ⟨.bl false, H, I, rfl, q⟩
theorem o_eqE : Op2 X rEqE fEqE := by
  intro S H x y dx dy d ps qs Q s rx ry e k
  unfold fEqE at e
  split at e
  · cases e
    obtain ⟨l1, v1, q1, rfl, h1, r1⟩ := rx.lst s
    obtain ⟨l2, v2, q2, rfl, h2, r2⟩ := ry.lst s
    cases r2
    refine ⟨l1, l2, v1, rfl, rfl, h1, h2, ?_⟩
    have e := RpAll.length r1
    rename_i xs _
    have : v1.isEmpty = xs.isEmpty := by cases v1 <;> cases xs <;> simp at e ⊢
    rw [this]
    exact newV s (.bl _) k
  · cases e
end
end G
namespace G
section
variable {α β : Type}
@[simp] theorem bind_ok (a : α) (f : α → Res β) : (Res.ok a).bind f = f a := id rfl
@[simp] theorem bind_no (f : α → Res β) : (Res.no).bind f = .no := id rfl
@[simp] theorem bind_ex (c : String) (fs : List D) (f : α → Res β) : (Res.ex c fs).bind f = .ex c fs := id rfl
@[simp] theorem of_some (a : α) : Res.of (some a) = .ok a := id rfl
@[simp] theorem of_none : (Res.of (none : Option α)) = .no := id rfl
@[simp] theorem nox_ok' (a : α) : (Res.ok a).nox = .ok a := id rfl
@[simp] theorem sE_ok (a : α) (ρ : Env) (k : α → Out) : sE (.ok a) ρ k = k a := id rfl
@[simp] theorem sE_ex (c : String) (fs : List D) (ρ : Env) (k : α → Out) : sE (.ex c fs) ρ k = .xc c fs ρ := id rfl
end
def onB {α : Type} (d : D) (x y z : α) : α := match d with
  | .bl true => x
  | .bl false => y
  | _ => z
@[simp] theorem onB_bl {α : Type} (b : Bool) (x y z : α) : onB (.bl b) x y z = if b = true then x else y := by cases b <;> rfl
@[simp] theorem ite_ok {α : Type} (p : Prop) [Decidable p] (x y : α) : (if p then Res.ok x else Res.ok y) = Res.ok (if p then x else y) := by split <;> rfl
@[simp] theorem ite_bl (p : Prop) [Decidable p] (x y : Bool) : (if p then D.bl x else D.bl y) = D.bl (if p then x else y) := by split <;> rfl
@[simp] theorem ite_int (p : Prop) [Decidable p] (x y : Int) : (if p then D.int x else D.int y) = D.int (if p then x else y) := by split <;> rfl
@[simp] theorem ite_str (p : Prop) [Decidable p] (x y : Tx) : (if p then D.str x else D.str y) = D.str (if p then x else y) := by split <;> rfl
@[simp] theorem get_0 (d : D) (ρ : Env) : get (some d :: ρ) 0 = .ok d := id rfl
@[simp] theorem get_s (x : Option D) (ρ : Env) (n : Nat) : get (x :: ρ) (n + 1) = get ρ n := id rfl
@[simp] theorem put_0 (x : Option D) (ρ : Env) (d : D) : put (x :: ρ) 0 d = some d :: ρ := id rfl
@[simp] theorem put_s (x : Option D) (ρ : Env) (n : Nat) (d : D) : put (x :: ρ) (n + 1) d = x :: put ρ n d := id rfl
@[simp] theorem clr_nil (ρ : Env) : clr [] ρ = ρ := id rfl
@[simp] theorem clr_cons (v : Nat) (vs : List Nat) (ρ : Env) : clr (v :: vs) ρ = (clr vs ρ).set v none := id rfl
@[simp] theorem eC_ap (d : D) (ρ : Env) : eC d ρ = .ok d := id rfl
@[simp] theorem eO_ap (i : Nat) (ρ : Env) : eO i ρ = get ρ i := id rfl
@[simp] theorem eV_ap (i : Nat) (ρ : Env) : eV i ρ = (get ρ i).bind fun d => if d.sh then .ok d else .no := id rfl
@[simp] theorem eFrz_ap (e : E) (ρ : Env) : eFrz e ρ = (e ρ).bind fun d => .ok d.frz := id rfl
@[simp] theorem e1_ap (f : D → Option D) (a : E) (ρ : Env) : e1 f a ρ = (a ρ).bind fun x => Res.of (f x) := id rfl
@[simp] theorem e2_ap (f : D → D → Option D) (a b : E) (ρ : Env) : e2 f a b ρ = (a ρ).bind fun x => (b ρ).bind fun y => Res.of (f x y) := id rfl
@[simp] theorem e2s_ap (f : D → D → Option D) (a b : E) (ρ : Env) : e2s f a b ρ = (a ρ).bind fun x => if x.isS then (b ρ).bind fun y => Res.of (f x y) else .no := id rfl
@[simp] theorem eAnd_ap (a b : E) (ρ : Env) : eAnd a b ρ = (a ρ).bind fun x => onB x (b ρ) (.ok (.bl false)) .no := by
  unfold eAnd onB; rfl
@[simp] theorem eOr_ap (a b : E) (ρ : Env) : eOr a b ρ = (a ρ).bind fun x => onB x (.ok (.bl true)) (b ρ) .no := by
  unfold eOr onB; rfl
@[simp] theorem eNot_ap (a : E) (ρ : Env) : eNot a ρ = (a ρ).bind fun x => Res.of (fNot x) := id rfl
@[simp] theorem eIf_ap (c a b : E) (ρ : Env) : eIf c a b ρ = (c ρ).bind fun x => onB x (a ρ) (b ρ) .no := by
  unfold eIf onB; rfl
@[simp] theorem eChain_ap (f g : D → D → Option D) (a b c : E) (ρ : Env) : eChain f g a b c ρ = (a ρ).bind fun x => (b ρ).bind fun y => (Res.of (f x y)).bind fun k => onB k ((c ρ).bind fun z => Res.of (g y z)) (.ok (.bl false)) .no := by
  unfold eChain onB; rfl
@[simp] theorem eArgs_nil (ρ : Env) : eArgs [] ρ = .ok [] := id rfl
@[simp] theorem eArgs_cons (e : E) (es : List E) (ρ : Env) : eArgs (e :: es) ρ = (e ρ).bind fun d => (eArgs es ρ).bind fun ds => .ok (d :: ds) := id rfl
@[simp] theorem eL_ap (es : List E) (ρ : Env) : eL es ρ = (eArgs es ρ).bind fun ds => .ok (.lst true ds) := id rfl
@[simp] theorem eT_ap (es : List E) (ρ : Env) : eT es ρ = (eArgs es ρ).bind fun ds => .ok (.tup true ds) := id rfl
@[simp] theorem eD0_ap (ρ : Env) : eD0 ρ = .ok (.dic true [] []) := id rfl
@[simp] theorem eDc_ap (ks : List (Sum Int Tx)) (ds : List D) (ρ : Env) : eDc ks ds ρ = .ok (.dic true ks ds) := id rfl
@[simp] theorem eCall_ap (f : List D → Res D) (es : List E) (ρ : Env) : eCall f es ρ = (eArgs es ρ).bind fun ds => (f (frzs ds)).bind fun r => if r.ow || shs ds then .ok r else .no := id rfl
@[simp] theorem eCall0_ap (f : List D → Res D) (ρ : Env) : eCall0 f ρ = (f []).nox := id rfl
@[simp] theorem eSl_ap (a : E) (ρ : Env) : eSl a ρ = (a ρ).bind fun x => Res.of (cutD x none none) := id rfl
@[simp] theorem eSlLo_ap (a lo : E) (ρ : Env) : eSlLo a lo ρ = (a ρ).bind fun x => (lo ρ).bind fun l => match l with
  | .int i => Res.of (cutD x (some i) none)
  | _ => .no := id rfl
@[simp] theorem eSlHi_ap (a hi : E) (ρ : Env) : eSlHi a hi ρ = (a ρ).bind fun x => (hi ρ).bind fun l => match l with
  | .int i => Res.of (cutD x none (some i))
  | _ => .no := id rfl
@[simp] theorem eSlLH_ap (a lo hi : E) (ρ : Env) : eSlLH a lo hi ρ = (a ρ).bind fun x => (lo ρ).bind fun l => match l with
  | .int i => (hi ρ).bind fun h => match h with
    | .int j => Res.of (cutD x (some i) (some j))
    | _ => .no
  | _ => .no := id rfl
@[simp] theorem eComp_ap (vs : List Nat) (it : I) (b : B) (c e : E) (ρ : Env) : eComp vs it b c e ρ = (it ρ).bind fun xs => (compL b c e (clr vs ρ) xs).bind fun ys => if ys.length ≤ LINE then .ok (.lst true ys) else .no := id rfl
@[simp] theorem iLst_ap (e : E) (ρ : Env) : iLst e ρ = (e ρ).bind fun d => match d with
  | .lst _ xs => .ok xs
  | .scr ns => .ok (ns.map .int)
  | _ => .no := id rfl
@[simp] theorem iLstS_ap (e : E) (ρ : Env) : iLstS e ρ = (e ρ).bind fun d => match d with
  | .lst false xs => .ok xs
  | .scr ns => .ok (ns.map .int)
  | _ => .no := id rfl
@[simp] theorem iTup_ap (e : E) (ρ : Env) : iTup e ρ = (e ρ).bind fun d => match d with
  | .tup _ xs => .ok xs
  | _ => .no := id rfl
@[simp] theorem iTupS_ap (e : E) (ρ : Env) : iTupS e ρ = (e ρ).bind fun d => match d with
  | .tup false xs => .ok xs
  | _ => .no := id rfl
@[simp] theorem iStr_ap (e : E) (ρ : Env) : iStr e ρ = (e ρ).bind fun d => match d with
  | .str s => .ok (s.map fun c => .str [c])
  | _ => .no := id rfl
@[simp] theorem iRange1_ap (e : E) (ρ : Env) : iRange1 e ρ = (e ρ).bind fun d => match d with
  | .int n => if fits62 n then .ok (rangeD 0 n.toNat) else .no
  | _ => .no := id rfl
@[simp] theorem iRange2_ap (a b : E) (ρ : Env) : iRange2 a b ρ = (a ρ).bind fun x => (b ρ).bind fun y => match x, y with
  | .int i, .int j => if fits62 i && fits62 j then .ok (rangeD i (j - i).toNat) else .no
  | _, _ => .no := id rfl
@[simp] theorem iRange3_ap (a b : E) (c : Int) (ρ : Env) : iRange3 a b c ρ = (a ρ).bind fun x => (b ρ).bind fun y => match x, y with
  | .int i, .int j => if fits62 i && fits62 j && decide (0 < c) && decide (c < 1073741824) then .ok (rangeC i c (turnsC i j c)) else .no
  | _, _ => .no := id rfl
@[simp] theorem iEnum_ap (i : I) (ρ : Env) : iEnum i ρ = (i ρ).bind fun xs => .ok (enumFrom 0 xs) := id rfl
@[simp] theorem sPass_ap (ρ : Env) : sPass ρ = .nx ρ := id rfl
@[simp] theorem sBreak_ap (ρ : Env) : sBreak ρ = .bk ρ := id rfl
@[simp] theorem sCont_ap (ρ : Env) : sCont ρ = .ct ρ := id rfl
@[simp] theorem sSet_ap (i : Nat) (e : E) (ρ : Env) : sSet i e ρ = sE (e ρ) ρ fun d => .nx (put ρ i d) := id rfl
@[simp] theorem sBind_ap (b : B) (e : E) (ρ : Env) : sBind b e ρ = sE (e ρ) ρ fun d => sE (b d ρ).nox ρ fun ρ1 => .nx ρ1 := id rfl
@[simp] theorem then_nx (ρ : Env) (b : Sd) : (Out.nx ρ).then b = b ρ := id rfl
@[simp] theorem then_rt (d : D) (ρ : Env) (b : Sd) : (Out.rt d ρ).then b = .rt d ρ := id rfl
@[simp] theorem then_xc (c : String) (fs : List D) (ρ : Env) (b : Sd) : (Out.xc c fs ρ).then b = .xc c fs ρ := id rfl
@[simp] theorem then_bk (ρ : Env) (b : Sd) : (Out.bk ρ).then b = .bk ρ := id rfl
@[simp] theorem then_ct (ρ : Env) (b : Sd) : (Out.ct ρ).then b = .ct ρ := id rfl
@[simp] theorem sSeq_ap (a b : Sd) (ρ : Env) : sSeq a b ρ = (a ρ).then b := id rfl
@[simp] theorem sIf_ap (c : E) (a b : Sd) (ρ : Env) : sIf c a b ρ = sE (c ρ) ρ fun x => onB x (a ρ) (b ρ) .no := by
  unfold sIf onB; rfl
@[simp] theorem sRet_ap (e : E) (ρ : Env) : sRet e ρ = sE (e ρ) ρ fun d => .rt d ρ := id rfl
@[simp] theorem sRetN_ap (ρ : Env) : sRetN ρ = .rt .non ρ := id rfl
@[simp] theorem sRetM_ap (i : Nat) (ρ : Env) : sRetM i ρ = sE (get ρ i) ρ fun d => .rt d (ρ.set i none) := id rfl
@[simp] theorem sDrop_ap (e : E) (ρ : Env) : sDrop e ρ = sE (e ρ) ρ fun _ => .nx ρ := id rfl
@[simp] theorem sFrz_ap (i : Nat) (s : Sd) (ρ : Env) : sFrz i s ρ = sE (get ρ i) ρ fun d => s (put ρ i d.frz) := id rfl
@[simp] theorem sApp_ap (i : Nat) (e : E) (ρ : Env) : sApp i e ρ = sE (get ρ i) ρ fun l => match l with
  | .lst true xs => sE (e ρ) ρ fun d => if xs.length < LINE then .nx (put ρ i (.lst true (xs ++ [d]))) else .no
  | _ => .no := id rfl
@[simp] theorem sExt_ap (i : Nat) (e : E) (ρ : Env) : sExt i e ρ = sE (get ρ i) ρ fun l => match l with
  | .lst true xs => sE (e ρ) ρ fun d => match d with
    | .lst _ ys => if xs.length + ys.length ≤ LINE then .nx (put ρ i (.lst true (xs ++ ys))) else .no
    | _ => .no
  | _ => .no := id rfl
@[simp] theorem sFor_ap (it : I) (b : B) (body : Sd) (ρ : Env) : sFor it b body ρ = sE (it ρ) ρ fun xs => forL b body xs ρ := id rfl
@[simp] theorem endF_rt (d : D) (ρ : Env) : endF (.rt d ρ) = .ok d := id rfl
@[simp] theorem endF_nx (ρ : Env) : endF (.nx ρ) = .ok .non := id rfl
@[simp] theorem endF_xc (c : String) (fs : List D) (ρ : Env) : endF (.xc c fs ρ) = .ex c fs := id rfl
@[simp] theorem loop_nx (ρ : Env) (k : Env → Out) : (Out.nx ρ).loop k = k ρ := id rfl
@[simp] theorem loop_ct (ρ : Env) (k : Env → Out) : (Out.ct ρ).loop k = k ρ := id rfl
@[simp] theorem loop_bk (ρ : Env) (k : Env → Out) : (Out.bk ρ).loop k = .nx ρ := id rfl
@[simp] theorem loop_rt (d : D) (ρ : Env) (k : Env → Out) : (Out.rt d ρ).loop k = .rt d ρ := id rfl
@[simp] theorem loop_xc (c : String) (fs : List D) (ρ : Env) (k : Env → Out) : (Out.xc c fs ρ).loop k = .xc c fs ρ := id rfl
@[simp] theorem bN_ap (i : Nat) (d : D) (ρ : Env) : bN i d ρ = if d.sh then .ok (put ρ i d) else .no := id rfl
@[simp] theorem cN_ap (i : Nat) (d : D) (ρ : Env) : cN i d ρ = .ok (put ρ i d) := id rfl
@[simp] theorem bT_ap (is : List Nat) (o : Bool) (ds : List D) (ρ : Env) : bT is (.tup o ds) ρ = bNs is ds ρ := id rfl
@[simp] theorem cT_ap (is : List Nat) (o : Bool) (ds : List D) (ρ : Env) : cT is (.tup o ds) ρ = cNs is ds ρ := id rfl
@[simp] theorem bNs_nil (ρ : Env) : bNs [] [] ρ = .ok ρ := id rfl
@[simp] theorem bNs_cons (i : Nat) (is : List Nat) (d : D) (ds : List D) (ρ : Env) : bNs (i :: is) (d :: ds) ρ = if d.sh then bNs is ds (put ρ i d) else .no := id rfl
@[simp] theorem cNs_nil (ρ : Env) : cNs [] [] ρ = .ok ρ := id rfl
@[simp] theorem cNs_cons (i : Nat) (is : List Nat) (d : D) (ds : List D) (ρ : Env) : cNs (i :: is) (d :: ds) ρ = cNs is ds (put ρ i d) := id rfl
@[simp] theorem sh_non : D.sh .non = true := by simp [D.sh]
@[simp] theorem sh_bl (b : Bool) : D.sh (.bl b) = true := by simp [D.sh]
@[simp] theorem sh_int (i : Int) : D.sh (.int i) = true := by simp [D.sh]
@[simp] theorem sh_str (s : Tx) : D.sh (.str s) = true := by simp [D.sh]
@[simp] theorem sh_scr (s : List Int) : D.sh (.scr s) = true := by simp [D.sh]
@[simp] theorem sh_lst (o : Bool) (xs : List D) : D.sh (.lst o xs) = (!o && shs xs) := by simp [D.sh]
@[simp] theorem sh_tup (o : Bool) (xs : List D) : D.sh (.tup o xs) = (!o && shs xs) := by simp [D.sh]
@[simp] theorem sh_dlk (ks : List (Sum Int Tx)) (xs : List D) : D.sh (.dlk ks xs) = shs xs := by simp [D.sh]
@[simp] theorem frz_dlk (ks : List (Sum Int Tx)) (xs : List D) : D.frz (.dlk ks xs) = .dlk ks (frzs xs) := by simp [D.frz]
@[simp] theorem sh_dic (o : Bool) (ks : List (Sum Int Tx)) (xs : List D) : D.sh (.dic o ks xs) = (!o && shs xs) := by simp [D.sh]
@[simp] theorem shs_nil : shs [] = true := id rfl
@[simp] theorem shs_cons (x : D) (xs : List D) : shs (x :: xs) = (x.sh && shs xs) := id rfl
@[simp] theorem ow_non : D.ow .non = true := by simp [D.ow]
@[simp] theorem ow_bl (b : Bool) : D.ow (.bl b) = true := by simp [D.ow]
@[simp] theorem ow_int (i : Int) : D.ow (.int i) = true := by simp [D.ow]
@[simp] theorem ow_str (s : Tx) : D.ow (.str s) = true := by simp [D.ow]
@[simp] theorem ow_lst (o : Bool) (xs : List D) : D.ow (.lst o xs) = (o && ows xs) := by simp [D.ow]
@[simp] theorem ow_tup (o : Bool) (xs : List D) : D.ow (.tup o xs) = (o && ows xs) := by simp [D.ow]
@[simp] theorem ows_nil : ows [] = true := id rfl
@[simp] theorem ows_cons (x : D) (xs : List D) : ows (x :: xs) = (x.ow && ows xs) := id rfl
@[simp] theorem frz_non : D.frz .non = .non := by simp [D.frz]
@[simp] theorem frz_bl (b : Bool) : D.frz (.bl b) = .bl b := by simp [D.frz]
@[simp] theorem frz_int (i : Int) : D.frz (.int i) = .int i := by simp [D.frz]
@[simp] theorem frz_str (s : Tx) : D.frz (.str s) = .str s := by simp [D.frz]
@[simp] theorem frz_scr (s : List Int) : D.frz (.scr s) = .scr s := by simp [D.frz]
@[simp] theorem frz_lst (o : Bool) (xs : List D) : D.frz (.lst o xs) = .lst false (frzs xs) := by simp [D.frz]
@[simp] theorem frz_tup (o : Bool) (xs : List D) : D.frz (.tup o xs) = .tup false (frzs xs) := by simp [D.frz]
@[simp] theorem frz_dic (o : Bool) (ks : List (Sum Int Tx)) (xs : List D) : D.frz (.dic o ks xs) = .dic false ks (frzs xs) := by simp [D.frz]
@[simp] theorem frzs_nil : frzs [] = [] := id rfl
@[simp] theorem frzs_cons (x : D) (xs : List D) : frzs (x :: xs) = x.frz :: frzs xs := id rfl
@[simp] theorem pl_non : D.pl .non = true := by simp [D.pl]
@[simp] theorem pl_bl (b : Bool) : D.pl (.bl b) = true := by simp [D.pl]
@[simp] theorem pl_int (i : Int) : D.pl (.int i) = true := by simp [D.pl]
@[simp] theorem pl_str (s : Tx) : D.pl (.str s) = true := by simp [D.pl]
@[simp] theorem pl_lst (o : Bool) (xs : List D) : D.pl (.lst o xs) = pls xs := by simp [D.pl]
@[simp] theorem pl_tup (o : Bool) (xs : List D) : D.pl (.tup o xs) = pls xs := by simp [D.pl]
@[simp] theorem pls_nil : pls [] = true := id rfl
@[simp] theorem pls_cons (x : D) (xs : List D) : pls (x :: xs) = (x.pl && pls xs) := id rfl
@[simp] theorem dep_non : D.dep .non = 0 := by simp [D.dep]
@[simp] theorem dep_bl (b : Bool) : D.dep (.bl b) = 0 := by simp [D.dep]
@[simp] theorem dep_int (i : Int) : D.dep (.int i) = 0 := by simp [D.dep]
@[simp] theorem dep_str (s : Tx) : D.dep (.str s) = 0 := by simp [D.dep]
@[simp] theorem dep_lst (o : Bool) (xs : List D) : D.dep (.lst o xs) = deps xs + 1 := by simp [D.dep]
@[simp] theorem dep_tup (o : Bool) (xs : List D) : D.dep (.tup o xs) = deps xs + 1 := by simp [D.dep]
@[simp] theorem deps_nil : deps [] = 0 := id rfl
@[simp] theorem deps_cons (x : D) (xs : List D) : deps (x :: xs) = max x.dep (deps xs) := id rfl
section
variable {α : Type} (f : α → D) (xs : List α)
theorem shs_map (h : ∀ a, (f a).sh = true) : shs (xs.map f) = true := by
  induction xs with
  | nil => rfl
  | cons a l ih => simp [h a, ih]
theorem ows_map (h : ∀ a, (f a).ow = true) : ows (xs.map f) = true := by
  induction xs with
  | nil => rfl
  | cons a l ih => simp [h a, ih]
theorem pls_map (h : ∀ a, (f a).pl = true) : pls (xs.map f) = true := by
  induction xs with
  | nil => rfl
  | cons a l ih => simp [h a, ih]
theorem deps_map (h : ∀ a, (f a).dep = 0) : deps (xs.map f) = 0 := by
  induction xs with
  | nil => rfl
  | cons a l ih => simp [h a, ih]
theorem frzs_of (h : ∀ a, (f a).frz = f a) : frzs (xs.map f) = xs.map f := by
  induction xs with
  | nil => rfl
  | cons a l ih => simp [h a, ih]
end
@[simp] theorem shs_str (l : List Tx) : shs (l.map .str) = true := shs_map _ _ fun _ => by simp
@[simp] theorem shs_int (l : List Int) : shs (l.map .int) = true := shs_map _ _ fun _ => by simp
@[simp] theorem shs_bl (l : List Bool) : shs (l.map .bl) = true := shs_map _ _ fun _ => by simp
@[simp] theorem ows_str (l : List Tx) : ows (l.map .str) = true := ows_map _ _ fun _ => by simp
@[simp] theorem ows_int (l : List Int) : ows (l.map .int) = true := ows_map _ _ fun _ => by simp
@[simp] theorem ows_bl (l : List Bool) : ows (l.map .bl) = true := ows_map _ _ fun _ => by simp
@[simp] theorem pls_str (l : List Tx) : pls (l.map .str) = true := pls_map _ _ fun _ => by simp
@[simp] theorem pls_int (l : List Int) : pls (l.map .int) = true := pls_map _ _ fun _ => by simp
@[simp] theorem pls_bl (l : List Bool) : pls (l.map .bl) = true := pls_map _ _ fun _ => by simp
@[simp] theorem deps_str (l : List Tx) : deps (l.map .str) = 0 := deps_map _ _ fun _ => by simp
@[simp] theorem deps_int (l : List Int) : deps (l.map .int) = 0 := deps_map _ _ fun _ => by simp
@[simp] theorem deps_bl (l : List Bool) : deps (l.map .bl) = 0 := deps_map _ _ fun _ => by simp
@[simp] theorem frzs_str (l : List Tx) : frzs (l.map .str) = l.map .str := frzs_of _ _ fun _ => by simp
@[simp] theorem frzs_int (l : List Int) : frzs (l.map .int) = l.map .int := frzs_of _ _ fun _ => by simp
@[simp] theorem frzs_bl (l : List Bool) : frzs (l.map .bl) = l.map .bl := frzs_of _ _ fun _ => by simp
section
variable {α : Type} (f : α → Tx) (g : α → Int) (h : α → Bool) (l : List α)
@[simp] theorem shs_strf : shs (l.map fun a => .str (f a)) = true := shs_map _ _ fun _ => by simp
@[simp] theorem ows_strf : ows (l.map fun a => .str (f a)) = true := ows_map _ _ fun _ => by simp
@[simp] theorem pls_strf : pls (l.map fun a => .str (f a)) = true := pls_map _ _ fun _ => by simp
@[simp] theorem deps_strf : deps (l.map fun a => .str (f a)) = 0 := deps_map _ _ fun _ => by simp
@[simp] theorem frzs_strf : frzs (l.map fun a => .str (f a)) = l.map fun a => .str (f a) := frzs_of _ _ fun _ => by simp
@[simp] theorem shs_intf : shs (l.map fun a => .int (g a)) = true := shs_map _ _ fun _ => by simp
@[simp] theorem ows_intf : ows (l.map fun a => .int (g a)) = true := ows_map _ _ fun _ => by simp
@[simp] theorem pls_intf : pls (l.map fun a => .int (g a)) = true := pls_map _ _ fun _ => by simp
@[simp] theorem deps_intf : deps (l.map fun a => .int (g a)) = 0 := deps_map _ _ fun _ => by simp
@[simp] theorem frzs_intf : frzs (l.map fun a => .int (g a)) = l.map fun a => .int (g a) := frzs_of _ _ fun _ => by simp
@[simp] theorem shs_blf : shs (l.map fun a => .bl (h a)) = true := shs_map _ _ fun _ => by simp
@[simp] theorem ows_blf : ows (l.map fun a => .bl (h a)) = true := ows_map _ _ fun _ => by simp
@[simp] theorem pls_blf : pls (l.map fun a => .bl (h a)) = true := pls_map _ _ fun _ => by simp
@[simp] theorem deps_blf : deps (l.map fun a => .bl (h a)) = 0 := deps_map _ _ fun _ => by simp
end
@[simp] theorem strsD_map (l : List Tx) : strsD (l.map .str) = some l := by
  induction l with
  | nil => rfl
  | cons a l ih => simp [strsD, ih]
@[simp] theorem intsD_map (l : List Int) : intsD (l.map .int) = some l := by
  induction l with
  | nil => rfl
  | cons a l ih => simp [intsD, ih]
@[simp] theorem boolsD_map (l : List Bool) : boolsD (l.map .bl) = some l := by
  induction l with
  | nil => rfl
  | cons a l ih => simp [boolsD, ih]
@[simp] theorem boolsD_mapf {α : Type} (f : α → Bool) (l : List α) : boolsD (l.map fun a => .bl (f a)) = some (l.map f) := by
  induction l with
  | nil => rfl
  | cons a l ih => simp [boolsD, ih]
@[simp] theorem intsD_mapf {α : Type} (f : α → Int) (l : List α) : intsD (l.map fun a => .int (f a)) = some (l.map f) := by
  induction l with
  | nil => rfl
  | cons a l ih => simp [intsD, ih]
@[simp] theorem strsD_mapf {α : Type} (f : α → Tx) (l : List α) : strsD (l.map fun a => .str (f a)) = some (l.map f) := by
  induction l with
  | nil => rfl
  | cons a l ih => simp [strsD, ih]
@[simp] theorem allFl_str (l : List Tx) : allFl (l.map .str) = true := by
  induction l with
  | nil => rfl
  | cons a l ih => simp [allFl, D.fl, ih]
@[simp] theorem allFl_int (l : List Int) : allFl (l.map .int) = true := by
  induction l with
  | nil => rfl
  | cons a l ih => simp [allFl, D.fl, ih]
@[simp] theorem eqvs_str : ∀ (a b : List Tx), eqvs (a.map .str) (b.map .str) = decide (a = b)
  | [], [] => rfl
  | [], b :: bs => by simp [eqvs]
  | a :: as, [] => by simp [eqvs]
  | a :: as, b :: bs => by
    simp only [List.map_cons, eqvs, eqvs_str as bs, D.eqv]
    by_cases h : a = b
    · subst h; simp
    · simp [h]
@[simp] theorem eqvs_int : ∀ (a b : List Int), eqvs (a.map .int) (b.map .int) = decide (a = b)
  | [], [] => rfl
  | [], b :: bs => by simp [eqvs]
  | a :: as, [] => by simp [eqvs]
  | a :: as, b :: bs => by
    simp only [List.map_cons, eqvs, eqvs_int as bs, D.eqv]
    by_cases h : a = b
    · subst h; simp
    · simp [h]
@[simp] theorem memD_str (x : Tx) (l : List Tx) : memD (.str x) (l.map .str) = decide (x ∈ l) := by
  induction l with
  | nil => rfl
  | cons a l ih =>
    simp only [List.map_cons, memD, ih, D.eqv]
    by_cases h : a = x
    · subst h; simp
    · simp [h, Ne.symm h]
@[simp] theorem subT_one (c : Nat) (l : Tx) : subT [c] l = decide (c ∈ l) := by
  induction l with
  | nil => rfl
  | cons a l ih =>
    simp only [subT, preT, ih]
    by_cases h : a = c
    · subst h; simp
    · simp [h, Ne.symm h]
@[simp] theorem fNot_bl (b : Bool) : fNot (.bl b) = some (.bl (!b)) := id rfl
theorem isEmpty_filter {α : Type} (p : α → Bool) (l : List α) : (l.filter fun a => !p a).isEmpty = l.all p := by
  induction l with
  | nil => rfl
  | cons a l ih => cases h : p a <;> simp_all
@[simp] theorem fAdd_int (i j : Int) : fAdd (.int i) (.int j) = some (.int (i + j)) := id rfl
@[simp] theorem fAdd_str (a b : Tx) : fAdd (.str a) (.str b) = if a.length + b.length ≤ LINE then some (.str (a ++ b)) else none := id rfl
@[simp] theorem fSub_int (i j : Int) : fSub (.int i) (.int j) = some (.int (i - j)) := id rfl
@[simp] theorem fNeg_int (i : Int) : fNeg (.int i) = some (.int (-i)) := id rfl
@[simp] theorem fDiv_int (i j : Int) (h : 0 < j) (h2 : j < 1073741824) : fDiv (.int i) (.int j) = some (.int (i / j)) := by simp [fDiv, h, h2]
@[simp] theorem fMod_int (i j : Int) (h : 0 < j) : fMod (.int i) (.int j) = some (.int (i % j)) := by simp [fMod, h]
@[simp] theorem fLt_int (i j : Int) : fLt (.int i) (.int j) = some (.bl (decide (i < j))) := id rfl
@[simp] theorem fLe_int (i j : Int) : fLe (.int i) (.int j) = some (.bl (decide (i ≤ j))) := id rfl
@[simp] theorem fGt_int (i j : Int) : fGt (.int i) (.int j) = some (.bl (decide (j < i))) := id rfl
@[simp] theorem fGe_int (i j : Int) : fGe (.int i) (.int j) = some (.bl (decide (j ≤ i))) := id rfl
@[simp] theorem fInt_bl (b : Bool) : fInt (.bl b) = some (.int (if b then 1 else 0)) := id rfl
@[simp] theorem fInt_int (i : Int) : fInt (.int i) = some (.int i) := id rfl
@[simp] theorem fLen_lst (o : Bool) (xs : List D) : fLen (.lst o xs) = some (.int (xs.length : Nat)) := id rfl
@[simp] theorem fLen_tup (o : Bool) (xs : List D) : fLen (.tup o xs) = some (.int (xs.length : Nat)) := id rfl
@[simp] theorem fLen_scr (ns : List Int) : fLen (.scr ns) = some (.int (ns.length : Nat)) := id rfl
@[simp] theorem fLen_str (s : Tx) (h : s.length ≤ LINE) : fLen (.str s) = some (.int (s.length : Nat)) := by simp [fLen, h]
@[simp] theorem isS_str (s : Tx) : D.isS (.str s) = true := id rfl
@[simp] theorem fIn_ss (a b : Tx) : fIn (.str a) (.str b) = some (.bl (subT a b)) := id rfl
@[simp] theorem fNin_ss (a b : Tx) : fNin (.str a) (.str b) = some (.bl (!subT a b)) := id rfl
@[simp] theorem eqvs_nil_r (xs : List D) : eqvs xs [] = xs.isEmpty := by cases xs <;> simp [eqvs]
@[simp] theorem eqvs_nil_l (xs : List D) : eqvs [] xs = xs.isEmpty := by cases xs <;> simp [eqvs]
@[simp] theorem eqv_lst (o p : Bool) (xs ys : List D) : D.eqv (.lst o xs) (.lst p ys) = eqvs xs ys := by simp [D.eqv]
@[simp] theorem eqv_tup (o p : Bool) (xs ys : List D) : D.eqv (.tup o xs) (.tup p ys) = eqvs xs ys := by simp [D.eqv]
@[simp] theorem eqv_str (a b : Tx) : D.eqv (.str a) (.str b) = decide (a = b) := by
  simp only [D.eqv]
  by_cases h : a = b <;> simp [h]
@[simp] theorem eqv_int (a b : Int) : D.eqv (.int a) (.int b) = decide (a = b) := by
  simp only [D.eqv]
  by_cases h : a = b <;> simp [h]
@[simp] theorem eqv_bl (a b : Bool) : D.eqv (.bl a) (.bl b) = (a == b) := by simp only [D.eqv]
@[simp] theorem eqvs_cons (x y : D) (xs ys : List D) : eqvs (x :: xs) (y :: ys) = (x.eqv y && eqvs xs ys) := by simp only [eqvs]
@[simp] theorem fEq_pl {a b : D} (h1 : a.pl = true) (h2 : b.pl = true) (h3 : a.dep ≤ 64) (h4 : b.dep ≤ 64) : fEq a b = some (.bl (a.eqv b)) := by simp [fEq, h1, h2, h3, h4]
@[simp] theorem fNe_pl {a b : D} (h1 : a.pl = true) (h2 : b.pl = true) (h3 : a.dep ≤ 64) (h4 : b.dep ≤ 64) : fNe a b = some (.bl (!a.eqv b)) := by simp [fNe, h1, h2, h3, h4]
theorem compL_map {j : Nat} {e : E} {ρ : Env} {g : D → D} : ∀ (xs : List D), (∀ x ∈ xs, e (put ρ j x) = .ok (g x)) → compL (cN j) eYes e ρ xs = .ok (xs.map g)
  | [], _ => rfl
  | x :: xs, h => by
    have h1 := h x (List.mem_cons_self ..)
    have h2 := compL_map xs fun y hy => h y (List.mem_cons_of_mem _ hy)
    simp [compL, eYes, h1, h2]
theorem compL_map2 {i j : Nat} {e : E} {ρ : Env} {α : Type} {t : α → D} {f1 f2 : α → D} {g : α → D} (ht : ∀ a, ∃ o, t a = .tup o [f1 a, f2 a]) : ∀ (xs : List α), (∀ x ∈ xs, e (put (put ρ i (f1 x)) j (f2 x)) = .ok (g x)) → compL (cT [i, j]) eYes e ρ (xs.map t) = .ok (xs.map g)
  | [], _ => rfl
  | x :: xs, h => by
    have h1 := h x (List.mem_cons_self ..)
    have h2 := compL_map2 ht xs fun y hy => h y (List.mem_cons_of_mem _ hy)
    obtain ⟨o, ho⟩ := ht x
    simp [compL, eYes, ho, h1, h2]
theorem forL_inv {b : B} {body : Sd} (I : Nat → Env → Prop) : ∀ (xs : List D) (k : Nat) (ρ : Env), I k ρ → (∀ i x ρ, xs[i]? = some x → I (k + i) ρ → ∃ ρ1 ρ2, b x ρ = .ok ρ1 ∧ (body ρ1 = .nx ρ2 ∨ body ρ1 = .ct ρ2) ∧ I (k + i + 1) ρ2) → ∃ ρ2, forL b body xs ρ = .nx ρ2 ∧ I (k + xs.length) ρ2
  | [], k, ρ, h, _ => ⟨ρ, rfl, h⟩
  | x :: xs, k, ρ, h, st => by
    obtain ⟨ρ1, ρ2, h1, h2, h3⟩ := st 0 x ρ rfl h
    obtain ⟨ρ3, h4, h5⟩ := forL_inv I xs (k + 1) ρ2 h3 fun i y ρ hy hi => by
      have := st (i + 1) y ρ (by simpa using hy) (by rw [show k + (i + 1) = k + 1 + i by omega]; exact hi)
      rw [show k + 1 + i + 1 = k + (i + 1) + 1 by omega]
      exact this
    refine ⟨ρ3, ?_, by rw [show k + (x :: xs).length = k + 1 + xs.length by simp; omega]; exact h5⟩
    rcases h2 with h2 | h2 <;> simp [forL, h1, h2, h4]
theorem compL_mapf {α : Type} {j : Nat} {e : E} {ρ : Env} {t g : α → D} : ∀ (xs : List α), (∀ x ∈ xs, e (put ρ j (t x)) = .ok (g x)) → compL (cN j) eYes e ρ (xs.map t) = .ok (xs.map g)
  | [], _ => rfl
  | x :: xs, h => by
    have h1 := h x (List.mem_cons_self ..)
    have h2 := compL_mapf xs fun y hy => h y (List.mem_cons_of_mem _ hy)
    simp [compL, eYes, h1, h2]
theorem compL_filterf {α : Type} {j : Nat} {c e : E} {ρ : Env} {t g : α → D} {p : α → Bool} : ∀ (xs : List α), (∀ x ∈ xs, c (put ρ j (t x)) = .ok (.bl (p x)) ∧ e (put ρ j (t x)) = .ok (g x)) → compL (cN j) c e ρ (xs.map t) = .ok ((xs.filter p).map g)
  | [], _ => rfl
  | x :: xs, h => by
    obtain ⟨h0, h1⟩ := h x (List.mem_cons_self ..)
    have h2 := compL_filterf xs fun y hy => h y (List.mem_cons_of_mem _ hy)
    cases hp : p x <;> simp [compL, h0, h1, h2, hp]
theorem cut_hiN {α : Type} (s : List α) (k : Nat) : cutL s none (some (k : Int)) = s.take k := by
  have h : ¬ ((k : Int) < 0) := by omega
  simp only [cutL, sIxD, h, if_false, List.drop_zero, Int.toNat_natCast, Nat.sub_zero]
  rw [List.take_eq_take_iff]; omega
theorem cut_loN {α : Type} (s : List α) (k : Nat) : cutL s (some (k : Int)) none = s.drop k := by
  have h : ¬ ((k : Int) < 0) := by omega
  simp only [cutL, sIxD, h, if_false, Int.toNat_natCast]
  rw [List.take_of_length_le (by simp)]
  by_cases hk : k ≤ s.length
  · rw [Nat.min_eq_left hk]
  · rw [Nat.min_eq_right (by omega), List.drop_of_length_le (Nat.le_refl _), List.drop_of_length_le (by omega)]
theorem splT_len (S : Tx) : ∀ (l : Tx) (k : Nat) (acc w : Tx), w ∈ splT S k acc l → w.length ≤ acc.length + l.length
  | [], k, acc, w, h => by
    have : w = acc := by cases k <;> simpa [splT] using h
    subst this; simp
  | c :: r, 0, acc, w, h => by
    unfold splT at h
    split at h
    · rcases List.mem_cons.mp h with rfl | h
      · omega
      · have := splT_len S r _ [] w h
        simp at this ⊢; omega
    · have := splT_len S r 0 (acc ++ [c]) w h
      simp at this ⊢; omega
  | c :: r, k + 1, acc, w, h => by
    have := splT_len S r k acc w h
    simp at this ⊢; omega
theorem splT_many (S : Tx) : ∀ (l : Tx) (k : Nat) (acc : Tx), (splT S k acc l).length ≤ l.length + 1
  | [], k, acc => by cases k <;> simp [splT]
  | c :: r, 0, acc => by
    unfold splT
    split
    · have := splT_many S r (S.length - 1) []
      simp; omega
    · have := splT_many S r 0 (acc ++ [c])
      simp; omega
  | c :: r, k + 1, acc => by
    have := splT_many S r k acc
    simp [splT]; omega
end G
namespace G
@[simp] theorem iRange3v_ap (a b c : E) (ρ : Env) : iRange3v a b c ρ = (a ρ).bind fun x => (b ρ).bind fun y => (c ρ).bind fun z => match x, y, z with
  | .int i, .int j, .int k => if fits62 i && fits62 j && decide (0 < k) && decide (k < 1073741824) then .ok (rangeC i k (turnsC i j k)) else .no
  | _, _, _ => .no := id rfl
@[simp] theorem sWhile_ap (k : Nat) (c : E) (body : Sd) (ρ : Env) : sWhile k c body ρ = whL c body k ρ := id rfl
theorem whL_inv {c : E} {body : Sd} (I : Nat → Env → Prop) (Q : Env → Prop) : ∀ (fuel m : Nat) (ρ : Env), m < fuel → I m ρ →
    (∀ m ρ, I m ρ → (c ρ = .ok (.bl false) ∧ Q ρ) ∨ (c ρ = .ok (.bl true) ∧ ∃ ρ2 m2, (body ρ = .nx ρ2 ∨ body ρ = .ct ρ2) ∧ m2 < m ∧ I m2 ρ2)) → ∃ ρ2, whL c body fuel ρ = .nx ρ2 ∧ Q ρ2
  | 0, m, ρ, h, _, _ => absurd h (Nat.not_lt_zero _)
  | fuel + 1, m, ρ, h, i, st => by
    rcases st m ρ i with ⟨h1, h2⟩ | ⟨h1, ρ2, m2, h2, h3, h4⟩
    · exact ⟨ρ, by simp [whL, h1], h2⟩
    · obtain ⟨ρ3, h5, h6⟩ := whL_inv I Q fuel m2 ρ2 (by omega) h4 st
      refine ⟨ρ3, ?_, h6⟩
      rcases h2 with h2 | h2 <;> simp [whL, h1, h2, h5]
end G
namespace G
@[simp] theorem pHere_ap (i : Nat) (ρ : Env) : pHere i ρ = (get ρ i).bind fun _ => .ok [] := id rfl
@[simp] theorem partAt_ap (ρ : Env) (i : Nat) (p : List Nat) : partAt ρ i p = (get ρ i).bind fun d => Res.of (atP p d) := id rfl
@[simp] theorem pIx_ap (i : Nat) (o : Pl) (e : E) (ρ : Env) : pIx i o e ρ = (o ρ).bind fun p => (e ρ).bind fun k => (partAt ρ i p).bind fun d => match d, k with
  | .lst true xs, .int k => (Res.of (ixD xs.length k)).bind fun j => .ok (p ++ [j])
  | .tup true xs, .int k => (Res.of (ixD xs.length k)).bind fun j => .ok (p ++ [j])
  | _, _ => .no := id rfl
@[simp] theorem sAppP_ap (i : Nat) (o : Pl) (e : E) (ρ : Env) : sAppP i o e ρ = sE (o ρ) ρ fun p => sE (partAt ρ i p) ρ fun l => match l with
  | .lst true xs => sE (e ρ) ρ fun d => if xs.length < LINE then upAt ρ i p (.lst true (xs ++ [d])) else .no
  | _ => .no := id rfl
@[simp] theorem sSetIx_ap (i : Nat) (o : Pl) (k e : E) (ρ : Env) : sSetIx i o k e ρ = sE (e ρ) ρ fun d => sE (o ρ) ρ fun p => sE (k ρ) ρ fun kd => sE (partAt ρ i p) ρ fun l => setIxK ρ i p d l kd := id rfl
@[simp] theorem setIxK_int (ρ : Env) (i : Nat) (p : List Nat) (d : D) (xs : List D) (k : Int) : setIxK ρ i p d (.lst true xs) (.int k) = sE (Res.of (ixD xs.length k)) ρ fun j => upAt ρ i p (.lst true (xs.set j d)) := id rfl
theorem upAt_get {ρ : Env} {i : Nat} {d : D} (h : get ρ i = .ok d) (p : List Nat) (e : D) : upAt ρ i p e = .nx (put ρ i (setP p e d)) := by unfold upAt; rw [h]
@[simp] theorem upAt_ap (ρ : Env) (i : Nat) (p : List Nat) (e : D) : upAt ρ i p e = sE (get ρ i) ρ fun d => .nx (put ρ i (setP p e d)) := by
  unfold upAt get
  split <;> rename_i h <;> split at h <;> first | (cases h; rfl) | (rename_i h1; cases h1) | skip
  all_goals first | rfl | (simp_all [sE])
@[simp] theorem shs_app (a b : List D) : shs (a ++ b) = (shs a && shs b) := by
  induction a with
  | nil => simp
  | cons x a ih => simp [ih, Bool.and_assoc]
@[simp] theorem ows_app (a b : List D) : ows (a ++ b) = (ows a && ows b) := by
  induction a with
  | nil => simp
  | cons x a ih => simp [ih, Bool.and_assoc]
@[simp] theorem pls_app (a b : List D) : pls (a ++ b) = (pls a && pls b) := by
  induction a with
  | nil => simp
  | cons x a ih => simp [ih, Bool.and_assoc]
@[simp] theorem deps_app (a b : List D) : deps (a ++ b) = max (deps a) (deps b) := by
  induction a with
  | nil => simp [deps]
  | cons x a ih => simp [deps, ih, Nat.max_assoc]
@[simp] theorem frzs_app (a b : List D) : frzs (a ++ b) = frzs a ++ frzs b := by
  induction a with
  | nil => simp
  | cons x a ih => simp [ih]
mutual
theorem frz_of_sh : ∀ d : D, d.sh = true → d.frz = d
  | .non, _ => by simp
  | .bl _, _ => by simp
  | .int _, _ => by simp
  | .str _, _ => by simp
  | .scr _, _ => by simp
  | .lst o xs, h => by
    simp at h
    rw [frz_lst, frzs_of_shs xs h.2, h.1]
  | .tup o xs, h => by
    simp at h
    rw [frz_tup, frzs_of_shs xs h.2, h.1]
  | .dlk ks xs, h => by
    simp at h
    rw [frz_dlk, frzs_of_shs xs h]
  | .dic o ks xs, h => by
    simp at h
    rw [frz_dic, frzs_of_shs xs h.2, h.1]
  | .ins o c fs xs, h => by
    simp [D.sh] at h
    simp only [D.frz]
    rw [frzs_of_shs xs h.2, h.1]
theorem frzs_of_shs : ∀ xs : List D, shs xs = true → frzs xs = xs
  | [], _ => rfl
  | x :: xs, h => by
    simp at h
    rw [frzs_cons, frz_of_sh x h.1, frzs_of_shs xs h.2]
end
mutual
theorem eqv_refl : ∀ d : D, d.pl = true → d.eqv d = true
  | .non, _ => by simp [D.eqv]
  | .bl _, _ => by simp [D.eqv]
  | .int _, _ => by simp [D.eqv]
  | .str _, _ => by simp [D.eqv]
  | .scr _, h => by simp [D.pl] at h
  | .dic _ _ _, h => by simp [D.pl] at h
  | .dlk _ _, h => by simp [D.pl] at h
  | .ins _ _ _ _, h => by simp [D.pl] at h
  | .lst _ xs, h => by
    simp at h
    rw [eqv_lst]; exact eqvs_refl xs h
  | .tup _ xs, h => by
    simp at h
    rw [eqv_tup]; exact eqvs_refl xs h
theorem eqvs_refl : ∀ xs : List D, pls xs = true → eqvs xs xs = true
  | [], _ => by simp [eqvs]
  | x :: xs, h => by
    simp at h
    rw [eqvs_cons, eqv_refl x h.1, eqvs_refl xs h.2]; rfl
end
@[simp] theorem atP_nil (d : D) : atP [] d = some d := id rfl
@[simp] theorem setP_nil (e d : D) : setP [] e d = e := id rfl
@[simp] theorem atP_lst (j : Nat) (p : List Nat) (xs : List D) : atP (j :: p) (.lst true xs) = xs[j]?.bind (atP p) := by simp [atP, D.isO, D.kids]
theorem setP_lst {j : Nat} {xs : List D} {c : D} (h : xs[j]? = some c) (p : List Nat) (e : D) : setP (j :: p) e (.lst true xs) = .lst true (xs.set j (setP p e c)) := by simp [setP, D.kids, h, D.kset]
@[simp] theorem sAddTo_ap (i : Nat) (e : E) (ρ : Env) : sAddTo i e ρ = sE (get ρ i) ρ fun l => match l with
  | .lst true xs => sE (e ρ) ρ fun d => addToK ρ i xs d
  | _ => .no := id rfl
@[simp] theorem addToK_lst (ρ : Env) (i : Nat) (xs : List D) (o : Bool) (ys : List D) : addToK ρ i xs (.lst o ys) = if xs.length + ys.length ≤ LINE then .nx (put ρ i (.lst true (xs ++ ys))) else .no := id rfl
@[simp] theorem sM_ok (d : D) (ρ : Env) (k : D → Env → Out) : sM (.ok d ρ) k = k d ρ := id rfl
@[simp] theorem sM_ex (c : String) (fs : List D) (ρ : Env) (k : D → Env → Out) : sM (.ex c fs ρ) k = .xc c fs ρ := id rfl
@[simp] theorem mR_ok {α : Type} (a : α) (ρ : Env) (k : α → ResM) : mR (.ok a) ρ k = k a := id rfl
@[simp] theorem sSetM_ap (i : Nat) (m : M) (ρ : Env) : sSetM i m ρ = sM (m ρ) fun d ρ1 => .nx (put ρ1 i d) := id rfl
@[simp] theorem sBindM_ap (b : B) (m : M) (ρ : Env) : sBindM b m ρ = sM (m ρ) fun d ρ1 => sE (b d.frz ρ1).nox ρ1 fun ρ2 => .nx ρ2 := id rfl
@[simp] theorem mPop_ap (i : Nat) (o : Pl) (ρ : Env) : mPop i o ρ = mR (o ρ) ρ fun p => mR (partAt ρ i p) ρ fun l => popK ρ i p l := id rfl
@[simp] theorem sRaise_ap (c : String) (ρ : Env) : sRaise c ρ = .xc c [] ρ := id rfl
@[simp] theorem sRaise2_ap (c : String) (a b : E) (ρ : Env) : sRaise2 c a b ρ = sE (a ρ) ρ fun x => sE (b ρ) ρ fun y => raise2K c ρ x y := id rfl
@[simp] theorem raise2K_int (c : String) (ρ : Env) (l p : Int) : raise2K c ρ (.int l) (.int p) = if fits62 l && fits62 p then .xc c [.int l, .int p] ρ else .no := id rfl
@[simp] theorem ixD_last (n : Nat) : ixD (n + 1) (-1) = some n := by
  unfold ixD
  rw [if_neg (by omega), if_pos (by omega)]
  congr 1; omega
theorem set_last {α : Type} (xs : List α) (y z : α) : (xs ++ [y]).set xs.length z = xs ++ [z] := by simp
@[simp] theorem fIxO_last (o : Bool) (xs : List D) (y : D) : fIxO (.lst o (xs ++ [y])) (.int (-1)) = some y := by
  simp [fIxO]
@[simp] theorem fIx_last (o : Bool) (xs : List D) (y : D) : fIx (.lst o (xs ++ [y])) (.int (-1)) = if y.sh then some y else none := by
  simp [fIx]
end G
namespace G
@[simp] theorem mMeth_ap (c m : String) (i : Nat) (den : List D → ResI) (fs : List E) (ρ : Env) : mMeth c m i den fs ρ = mR (get ρ i) ρ fun d0 => if insOk c m d0 then mCall i den fs ρ else .no := id rfl
@[simp] theorem mCall_ap (i : Nat) (den : List D → ResI) (fs : List E) (ρ : Env) : mCall i den fs ρ = mR (get ρ i) ρ fun d0 => mR (eArgs fs ρ) ρ fun ds => if shs ds then mI ρ i (den (d0 :: ds)) else .no := id rfl
@[simp] theorem mI_ok (ρ : Env) (i : Nat) (d d0 : D) : mI ρ i (.ok d d0) = .ok d (put ρ i d0) := id rfl
@[simp] theorem mI_ex (ρ : Env) (i : Nat) (c : String) (fs : List D) (d0 : D) : mI ρ i (.ex c fs d0) = .ex c fs (put ρ i d0) := id rfl
@[simp] theorem eMeth_ap (c m : String) (f : E) (den : List D → Res D) (fs : List E) (ρ : Env) : eMeth c m f den fs ρ = (f ρ).bind fun d => if insOk c m d then eCall den (f :: fs) ρ else .no := id rfl
@[simp] theorem sDropM_ap (m : M) (ρ : Env) : sDropM m ρ = sM (m ρ) fun _ ρ1 => .nx ρ1 := id rfl
@[simp] theorem sRetMM_ap (m : M) (ρ : Env) : sRetMM m ρ = sM (m ρ) fun d ρ1 => .rt d ρ1 := id rfl
@[simp] theorem sAppM_ap (j : Nat) (m : M) (ρ : Env) : sAppM j m ρ = sE (get ρ j) ρ fun l0 => match l0 with
  | .lst true _ => sM (m ρ) fun d ρ1 => sE (get ρ1 j) ρ1 fun l => match l with
    | .lst true xs => if xs.length < LINE then .nx (put ρ1 j (.lst true (xs ++ [d]))) else .no
    | _ => .no
  | _ => .no := id rfl
@[simp] theorem mTup_ap (as : List E) (m : M) (bs : List E) (ρ : Env) : mTup as m bs ρ = mPack (.tup true) (mArgs m bs as ρ) := id rfl
@[simp] theorem mLst_ap (as : List E) (m : M) (bs : List E) (ρ : Env) : mLst as m bs ρ = mPack (.lst true) (mArgs m bs as ρ) := id rfl
theorem mArgs_cons {m : M} {bs : List E} {e : E} {as : List E} {ρ ρ1 : Env} {d : D} {ds : List D} (h1 : e ρ = .ok d) (h2 : d.at = true) (h3 : mArgs m bs as ρ = .ok ds ρ1) : mArgs m bs (e :: as) ρ = .ok (d :: ds) ρ1 := by
  unfold mArgs; simp only [h1, h2, if_true, h3]
@[simp] theorem mPack_ok (k : List D → D) (ds : List D) (ρ : Env) : mPack k (.ok ds ρ) = if ds.length ≤ 1000 then .ok (k ds) ρ else .no := id rfl
@[simp] theorem mFrz_ok {m : M} {ρ ρ1 : Env} {d : D} (h : m ρ = .ok d ρ1) : mFrz m ρ = .ok d.frz ρ1 := by simp [mFrz, h]
@[simp] theorem eMake_ap (c : String) (den : List D → ResI) (fs : List E) (ρ : Env) : eMake c den fs ρ = (eArgs fs ρ).bind fun ds => if shs ds then match den (.ins true c [] [] :: ds) with
    | .ok .non d0 => .ok d0
    | _ => .no
  else .no := id rfl
end G
namespace G
@[simp] theorem mClear_ap (i : Nat) (o : Pl) (ρ : Env) : mClear i o ρ = mR (o ρ) ρ fun p => mR (partAt ρ i p) ρ fun l => clearK ρ i p l := id rfl
theorem clearK_lst (ρ : Env) (i : Nat) (p : List Nat) (xs : List D) : clearK ρ i p (.lst true xs) = mR (get ρ i) ρ fun d0 => .ok .non (put ρ i (setP p (.lst true []) d0)) := by
  simp only [clearK]
  unfold get
  split
  · rename_i d h; rw [h]; rfl
  · rename_i h; split
    · rename_i d hd; rw [hd] at h; exact absurd rfl (h d)
    · rfl
@[simp] theorem sFrzK_ap (i : Nat) (s : Sd) (ρ : Env) : sFrzK i s ρ = sE (get ρ i) ρ fun d => if d.isO then s (put ρ i d.frzK) else .no := id rfl
theorem fRepl_eq (y z a : Tx) (hy : y ≠ []) (h2 : y.all (· < 256) = true) (hl : a.length + (a.length + 1) * z.length ≤ LINE) : fRepl y z (.str a) = some (.str (joinT z (splT y 0 [] a))) := by
  simp only [fRepl]
  rw [if_pos]
  simp only [Bool.and_eq_true, decide_eq_true_eq]
  exact ⟨hy, h2, hl⟩
theorem sAugI_ap (i : Nat) (f : Int → Int → Int) (e : E) (ρ : Env) : sAugI i f e ρ = sE (get ρ i) ρ fun a => match a with
  | .int a => sE (e ρ) ρ fun b => match b with
    | .int b => .nx (put ρ i (.int (f a b)))
    | _ => .no
  | _ => .no := id rfl
theorem eDict_ap (ks : List KD) (es : List E) (ρ : Env) : eDict ks es ρ = (eArgs es ρ).bind fun ds => .ok (.dic true ks ds) := id rfl
mutual
theorem frz_shL : ∀ d : D, d.frz.sh = true
  | .lst _ xs => by simp [D.frz, D.sh, frzs_shL xs]
  | .tup _ xs => by simp [D.frz, D.sh, frzs_shL xs]
  | .dic _ _ vs => by simp [D.frz, D.sh, frzs_shL vs]
  | .dlk _ vs => by simp [D.frz, D.sh, frzs_shL vs]
  | .ins _ _ _ vs => by simp [D.frz, D.sh, frzs_shL vs]
  | .scr _ => rfl
  | .non => rfl
  | .bl _ => rfl
  | .int _ => rfl
  | .str _ => rfl
theorem frzs_shL : ∀ ds : List D, shs (frzs ds) = true
  | [] => rfl
  | d :: ds => by simp [frzs, shs, frz_shL d, frzs_shL ds]
end
theorem at0_s (d : D) (ρ : Env) (k : D → ResI) : at0 (some d :: ρ) k = k d := id rfl
end G
local macro_rules
  | `(tactic| simp_arith!) => `(tactic| simp only [eq_self, G.sAugI_ap, G.eDict_ap, G.sFrzK_ap, G.mClear_ap, G.clearK_lst, G.bind_ok, G.bind_no, G.bind_ex, G.of_some, G.of_none, G.nox_ok', G.sE_ok, G.sE_ex, G.onB_bl, G.ite_ok, G.ite_bl, G.ite_int, G.ite_str, G.get_0, G.get_s, G.put_0, G.put_s, G.clr_nil, G.clr_cons, G.eC_ap, G.eO_ap, G.eV_ap, G.eFrz_ap, G.e1_ap, G.e2_ap, G.e2s_ap, G.eAnd_ap, G.eOr_ap, G.eNot_ap, G.eIf_ap, G.eChain_ap, G.eArgs_nil, G.eArgs_cons, G.eL_ap, G.eT_ap, G.eD0_ap, G.eDc_ap, G.eCall_ap, G.eCall0_ap, G.eSl_ap, G.eSlLo_ap, G.eSlHi_ap, G.eSlLH_ap, G.eComp_ap, G.iLst_ap, G.iLstS_ap, G.iTup_ap, G.iTupS_ap, G.iStr_ap, G.iRange1_ap, G.iRange2_ap, G.iRange3_ap, G.iEnum_ap, G.sPass_ap, G.sBreak_ap, G.sCont_ap, G.sSet_ap, G.sBind_ap, G.then_nx, G.then_rt, G.then_xc, G.then_bk, G.then_ct, G.sSeq_ap, G.sIf_ap, G.sRet_ap, G.sRetN_ap, G.sRetM_ap, G.sDrop_ap, G.sFrz_ap, G.sApp_ap, G.sExt_ap, G.sFor_ap, G.endF_rt, G.endF_nx, G.endF_xc, G.loop_nx, G.loop_ct, G.loop_bk, G.loop_rt, G.loop_xc, G.bN_ap, G.cN_ap, G.bT_ap, G.cT_ap, G.bNs_nil, G.bNs_cons, G.cNs_nil, G.cNs_cons, G.sh_non, G.sh_bl, G.sh_int, G.sh_str, G.sh_scr, G.sh_lst, G.sh_tup, G.sh_dic, G.shs_nil, G.shs_cons, G.ow_non, G.ow_bl, G.ow_int, G.ow_str, G.ow_lst, G.ow_tup, G.ows_nil, G.ows_cons, G.frz_non, G.frz_bl, G.frz_int, G.frz_str, G.frz_scr, G.frz_lst, G.frz_tup, G.frz_dic, G.frzs_nil, G.frzs_cons, G.pl_non, G.pl_bl, G.pl_int, G.pl_str, G.pl_lst, G.pl_tup, G.pls_nil, G.pls_cons, G.dep_non, G.dep_bl, G.dep_int, G.dep_str, G.dep_lst, G.dep_tup, G.deps_nil, G.deps_cons, G.shs_str, G.shs_int, G.shs_bl, G.ows_str, G.ows_int, G.ows_bl, G.pls_str, G.pls_int, G.pls_bl, G.deps_str, G.deps_int, G.deps_bl, G.frzs_str, G.frzs_int, G.frzs_bl, G.shs_strf, G.ows_strf, G.pls_strf, G.deps_strf, G.frzs_strf, G.shs_intf, G.ows_intf, G.pls_intf, G.deps_intf, G.frzs_intf, G.shs_blf, G.ows_blf, G.pls_blf, G.deps_blf, G.strsD_map, G.intsD_map, G.boolsD_map, G.boolsD_mapf, G.intsD_mapf, G.strsD_mapf, G.allFl_str, G.allFl_int, G.eqvs_str, G.eqvs_int, G.memD_str, G.subT_one, G.fNot_bl, G.fAdd_int, G.fSub_int, G.fNeg_int, G.fDiv_int, G.fMod_int, G.fLt_int, G.fLe_int, G.fGt_int, G.fGe_int, G.fInt_bl, G.fInt_int, G.fLen_lst, G.fLen_tup, G.fLen_scr, G.fLen_str, G.isS_str, G.fIn_ss, G.fNin_ss, G.eqvs_nil_r, G.eqvs_nil_l, G.eqv_lst, G.eqv_tup, G.eqv_str, G.eqv_int, G.eqv_bl, G.eqvs_cons, G.fEq_pl, G.fNe_pl, G.iRange3v_ap, G.sWhile_ap, G.pHere_ap, G.partAt_ap, G.pIx_ap, G.sAppP_ap, G.sSetIx_ap, G.setIxK_int, G.upAt_ap, G.shs_app, G.ows_app, G.pls_app, G.deps_app, G.frzs_app, G.atP_nil, G.setP_nil, G.atP_lst, G.sAddTo_ap, G.addToK_lst, G.sM_ok, G.sM_ex, G.mR_ok, G.sSetM_ap, G.sBindM_ap, G.mPop_ap, G.sRaise_ap, G.sRaise2_ap, G.raise2K_int, G.ixD_last, G.fIxO_last, G.fIx_last, G.mMeth_ap, G.mCall_ap, G.mI_ok, G.mI_ex, G.eMeth_ap, G.sDropM_ap, G.sRetMM_ap, G.sAppM_ap, G.mTup_ap, G.mLst_ap, G.mPack_ok, G.mFrz_ok, G.eMake_ap, if_true, if_false, Bool.and_true, Bool.true_and, Bool.and_false, Bool.false_and, Bool.or_true, Bool.true_or, Bool.or_false, Bool.false_or, Bool.not_true, Bool.not_false, Bool.and_self, Bool.or_self, decide_true, decide_false, Bool.false_eq_true, ite_true, ite_false, reduceIte, Option.bind_some, Option.bind_none, Option.map_some, Option.map_none, List.map_nil, beq_self_eq_true, Int.reduceLT, Int.reduceLE, Int.reduceEq, Int.reduceAdd, Int.reduceSub, Int.reduceMul, Int.reduceNeg, Int.reduceDiv, Int.reduceMod, Nat.reduceLeDiff, Nat.reduceAdd, Nat.zero_le, Int.reduceNe, G.runF, G.runI, G.endI, G.at0_s, List.map_cons, List.cons_append, List.nil_append, List.length_cons, List.length_nil, List.set_cons_zero, List.set_cons_succ, Nat.reduceSub, Nat.reduceEqDiff, List.set_nil, List.replicate_succ, List.replicate_zero, Nat.zero_add])
  | `(tactic| simp_arith! [$ls,*]) => `(tactic| simp only [eq_self, G.sAugI_ap, G.eDict_ap, G.sFrzK_ap, G.mClear_ap, G.clearK_lst, G.bind_ok, G.bind_no, G.bind_ex, G.of_some, G.of_none, G.nox_ok', G.sE_ok, G.sE_ex, G.onB_bl, G.ite_ok, G.ite_bl, G.ite_int, G.ite_str, G.get_0, G.get_s, G.put_0, G.put_s, G.clr_nil, G.clr_cons, G.eC_ap, G.eO_ap, G.eV_ap, G.eFrz_ap, G.e1_ap, G.e2_ap, G.e2s_ap, G.eAnd_ap, G.eOr_ap, G.eNot_ap, G.eIf_ap, G.eChain_ap, G.eArgs_nil, G.eArgs_cons, G.eL_ap, G.eT_ap, G.eD0_ap, G.eDc_ap, G.eCall_ap, G.eCall0_ap, G.eSl_ap, G.eSlLo_ap, G.eSlHi_ap, G.eSlLH_ap, G.eComp_ap, G.iLst_ap, G.iLstS_ap, G.iTup_ap, G.iTupS_ap, G.iStr_ap, G.iRange1_ap, G.iRange2_ap, G.iRange3_ap, G.iEnum_ap, G.sPass_ap, G.sBreak_ap, G.sCont_ap, G.sSet_ap, G.sBind_ap, G.then_nx, G.then_rt, G.then_xc, G.then_bk, G.then_ct, G.sSeq_ap, G.sIf_ap, G.sRet_ap, G.sRetN_ap, G.sRetM_ap, G.sDrop_ap, G.sFrz_ap, G.sApp_ap, G.sExt_ap, G.sFor_ap, G.endF_rt, G.endF_nx, G.endF_xc, G.loop_nx, G.loop_ct, G.loop_bk, G.loop_rt, G.loop_xc, G.bN_ap, G.cN_ap, G.bT_ap, G.cT_ap, G.bNs_nil, G.bNs_cons, G.cNs_nil, G.cNs_cons, G.sh_non, G.sh_bl, G.sh_int, G.sh_str, G.sh_scr, G.sh_lst, G.sh_tup, G.sh_dic, G.shs_nil, G.shs_cons, G.ow_non, G.ow_bl, G.ow_int, G.ow_str, G.ow_lst, G.ow_tup, G.ows_nil, G.ows_cons, G.frz_non, G.frz_bl, G.frz_int, G.frz_str, G.frz_scr, G.frz_lst, G.frz_tup, G.frz_dic, G.frzs_nil, G.frzs_cons, G.pl_non, G.pl_bl, G.pl_int, G.pl_str, G.pl_lst, G.pl_tup, G.pls_nil, G.pls_cons, G.dep_non, G.dep_bl, G.dep_int, G.dep_str, G.dep_lst, G.dep_tup, G.deps_nil, G.deps_cons, G.shs_str, G.shs_int, G.shs_bl, G.ows_str, G.ows_int, G.ows_bl, G.pls_str, G.pls_int, G.pls_bl, G.deps_str, G.deps_int, G.deps_bl, G.frzs_str, G.frzs_int, G.frzs_bl, G.shs_strf, G.ows_strf, G.pls_strf, G.deps_strf, G.frzs_strf, G.shs_intf, G.ows_intf, G.pls_intf, G.deps_intf, G.frzs_intf, G.shs_blf, G.ows_blf, G.pls_blf, G.deps_blf, G.strsD_map, G.intsD_map, G.boolsD_map, G.boolsD_mapf, G.intsD_mapf, G.strsD_mapf, G.allFl_str, G.allFl_int, G.eqvs_str, G.eqvs_int, G.memD_str, G.subT_one, G.fNot_bl, G.fAdd_int, G.fSub_int, G.fNeg_int, G.fDiv_int, G.fMod_int, G.fLt_int, G.fLe_int, G.fGt_int, G.fGe_int, G.fInt_bl, G.fInt_int, G.fLen_lst, G.fLen_tup, G.fLen_scr, G.fLen_str, G.isS_str, G.fIn_ss, G.fNin_ss, G.eqvs_nil_r, G.eqvs_nil_l, G.eqv_lst, G.eqv_tup, G.eqv_str, G.eqv_int, G.eqv_bl, G.eqvs_cons, G.fEq_pl, G.fNe_pl, G.iRange3v_ap, G.sWhile_ap, G.pHere_ap, G.partAt_ap, G.pIx_ap, G.sAppP_ap, G.sSetIx_ap, G.setIxK_int, G.upAt_ap, G.shs_app, G.ows_app, G.pls_app, G.deps_app, G.frzs_app, G.atP_nil, G.setP_nil, G.atP_lst, G.sAddTo_ap, G.addToK_lst, G.sM_ok, G.sM_ex, G.mR_ok, G.sSetM_ap, G.sBindM_ap, G.mPop_ap, G.sRaise_ap, G.sRaise2_ap, G.raise2K_int, G.ixD_last, G.fIxO_last, G.fIx_last, G.mMeth_ap, G.mCall_ap, G.mI_ok, G.mI_ex, G.eMeth_ap, G.sDropM_ap, G.sRetMM_ap, G.sAppM_ap, G.mTup_ap, G.mLst_ap, G.mPack_ok, G.mFrz_ok, G.eMake_ap, if_true, if_false, Bool.and_true, Bool.true_and, Bool.and_false, Bool.false_and, Bool.or_true, Bool.true_or, Bool.or_false, Bool.false_or, Bool.not_true, Bool.not_false, Bool.and_self, Bool.or_self, decide_true, decide_false, Bool.false_eq_true, ite_true, ite_false, reduceIte, Option.bind_some, Option.bind_none, Option.map_some, Option.map_none, List.map_nil, beq_self_eq_true, Int.reduceLT, Int.reduceLE, Int.reduceEq, Int.reduceAdd, Int.reduceSub, Int.reduceMul, Int.reduceNeg, Int.reduceDiv, Int.reduceMod, Nat.reduceLeDiff, Nat.reduceAdd, Nat.zero_le, Int.reduceNe, G.runF, G.runI, G.endI, G.at0_s, List.map_cons, List.cons_append, List.nil_append, List.length_cons, List.length_nil, List.set_cons_zero, List.set_cons_succ, Nat.reduceSub, Nat.reduceEqDiff, List.set_nil, List.replicate_succ, List.replicate_zero, Nat.zero_add, $ls,*])
namespace G
end G
namespace Lk21
open G
def cs_BadBody : List (String × Bool) := [("BadBytes", false), ("BadName", false), ("BadPiece", false), ("BadValue", false), ("TooLong", false)]
def cs_BadBytes : List (String × Bool) := [("BadBytes", true), ("BadName", false), ("BadPiece", false), ("BadValue", false), ("TooLong", false)]
def cs_BadHeader : List (String × Bool) := [("BadBytes", false), ("BadName", false), ("BadPiece", false), ("BadValue", false), ("TooLong", false)]
def cs_BadName : List (String × Bool) := [("BadBytes", false), ("BadName", true), ("BadPiece", false), ("BadValue", false), ("TooLong", false)]
def cs_BadPiece : List (String × Bool) := [("BadBytes", false), ("BadName", false), ("BadPiece", true), ("BadValue", false), ("TooLong", false)]
def cs_BadRow : List (String × Bool) := [("BadBytes", false), ("BadName", false), ("BadPiece", false), ("BadValue", false), ("TooLong", false)]
def cs_BadValue : List (String × Bool) := [("BadBytes", false), ("BadName", false), ("BadPiece", false), ("BadValue", true), ("TooLong", false)]
def cs_HouseError : List (String × Bool) := [("BadBytes", true), ("BadName", true), ("BadPiece", true), ("BadValue", true), ("TooLong", true)]
def cs_TooLong : List (String × Bool) := [("BadBytes", false), ("BadName", false), ("BadPiece", false), ("BadValue", false), ("TooLong", true)]
def cs_ValueError : List (String × Bool) := [("BadBytes", true), ("BadName", true), ("BadPiece", true), ("BadValue", true), ("TooLong", true)]
abbrev es_HouseError := cs_HouseError
def ct_list : List (String × Bool) := [("Header", false), ("Piece", false)]
def ci_Header : List (String × Bool) := [("Header", true), ("Piece", false)]
def ci_Piece : List (String × Bool) := [("Header", false), ("Piece", true)]
def t_headers : Tx := [104, 101, 97, 100, 101, 114, 115]
def t_rows : Tx := [114, 111, 119, 115]
def t_pieces : Tx := [112, 105, 101, 99, 101, 115]
def t_b_563a : Tx := [45, 45, 98]
def t_b_4864 : Tx := [45, 98]
def t_B_76f2 : Tx := [45, 45, 66]
def t_b : Tx := [98]
def t__1465 : Tx := [45, 45]
def t__0 : Tx := []
def t_x : Tx := [120]
def t_b_3629 : Tx := [32, 98]
def t_0 : Tx := [48]
def t_bcd : Tx := [98, 99, 100]
def t_x_cf53 : Tx := [32, 120]
def t__363f : Tx := [58]
def t__cf45 : Tx := [32]
def t_Bodyplai_7ed4 : Tx := [66, 111, 100, 121, 58, 32, 112, 108, 97, 105, 110]
def t__693 : Tx := [10]
def t_Bodypiec_dfb6 : Tx := [66, 111, 100, 121, 58, 32, 112, 105, 101, 99, 101, 115, 32]
def t_c : Tx := [99]
def t_body : Tx := [98, 111, 100, 121]
def t_01234567_b361 : Tx := [32, 33, 34, 35, 36, 38, 39, 40, 41, 42, 43, 44, 45, 46, 47, 48, 49, 50, 51, 52, 53, 54, 55, 56, 57, 58, 59, 60, 61, 62, 63, 64, 65, 66, 67, 68, 69, 70, 71, 72, 73, 74, 75, 76, 77, 78, 79, 80, 81, 82, 83, 84, 85, 86, 87, 88, 89, 90, 91, 92, 93, 94, 95, 96, 97, 98, 99, 100, 101, 102, 103, 104, 105, 106, 107, 108, 109, 110, 111, 112, 113, 114, 115, 116, 117, 118, 119, 120, 121, 122, 123, 124, 125, 126]
def t__a39c : Tx := [61]
def t_01234567_37b5 : Tx := [48, 49, 50, 51, 52, 53, 54, 55, 56, 57, 65, 66, 67, 68, 69, 70]
def t_ABCDEFGH_2ddd : Tx := [65, 66, 67, 68, 69, 70, 71, 72, 73, 74, 75, 76, 77, 78, 79, 80, 81, 82, 83, 84, 85, 86, 87, 88, 89, 90, 97, 98, 99, 100, 101, 102, 103, 104, 105, 106, 107, 108, 109, 110, 111, 112, 113, 114, 115, 116, 117, 118, 119, 120, 121, 122, 48, 49, 50, 51, 52, 53, 54, 55, 56, 57, 43, 47]
def t_plain : Tx := [112, 108, 97, 105, 110]
def t_sixty : Tx := [115, 105, 120, 116, 121]
def t_sixteens : Tx := [115, 105, 120, 116, 101, 101, 110, 115]
def t__b3f8 : Tx := [45]
def t_abcdefgh_50bd : Tx := [97, 98, 99, 100, 101, 102, 103, 104, 105, 106, 107, 108, 109, 110, 111, 112, 113, 114, 115, 116, 117, 118, 119, 120, 121, 122]
def t_pieces_f221 : Tx := [112, 105, 101, 99, 101, 115, 32]
def t_row : Tx := [114, 111, 119]
def b__law_mixed : Sd := sSeq (sSet 2 (e2 fAdd (e2 fAdd (e2 fMod (eO 0) (eC (.int 1000000007))) (e2 fMul (eC (.int 7919)) (eO 1))) (eC (.int 13)))) (sRet (e2 fDiv (e2 fMod (e2 fMul (e2 fMod (e2 fMul (eO 2) (eO 2)) (eC (.int 1000000007))) (eO 2)) (eC (.int 998244353))) (eC (.int 11))))
def d__law_mixed : List D → Res D := runF 3 b__law_mixed
def b__law_open : Sd := sRet (eDict [.inr t_headers, .inr t_rows, .inr t_pieces] [eL [], eL [], eL []])
def d__law_open : List D → Res D := runF 0 b__law_open
def b__law_row : Sd := sSeq (sSet 1 (e2 fIx (eFrz (eL [e2 fMod (e2 fDiv (eO 0) (eC (.int 6))) (eC (.int 3)), e2 fMod (e2 fDiv (eO 0) (eC (.int 6))) (eC (.int 12)), e2 fAdd (eC (.int 9)) (e2 fMod (e2 fDiv (eO 0) (eC (.int 6))) (eC (.int 122)))])) (e2 fMod (e2 fDiv (eO 0) (eC (.int 72))) (eC (.int 3))))) (sSeq (sSet 2 (e2 fAdd (e2 fIx (eFrz (eL [eC (.str t_b_563a), eC (.str t_b_563a), eC (.str t_b_4864), eC (.str t_B_76f2), eC (.str t_b), eC (.str t__1465)])) (e2 fMod (eO 0) (eC (.int 6)))) (e1 fStrI (eO 1)))) (sRet (e2 fAdd (eO 2) (e2 fIx (eFrz (eL [eC (.str t__0), eC (.str t__1465), eC (.str t_x), eC (.str t_b_3629), eC (.str t_0)])) (e2 fMod (e2 fDiv (eO 0) (eC (.int 216))) (eC (.int 5)))))))
def d__law_row : List D → Res D := runF 3 b__law_row
def lb1__law_drawn : Kd := kSeq (kLift 1 5 (sSet 4 (eCall d__law_mixed [eO 3, eO 2]))) (kSeq (kTop 1 5) (kSeq (kLift 1 5 (sSet 6 (e2 fDiv (eO 4) (eC (.int 8))))) (kIf 1 5 (eAnd (e2 fLt (e2 fMod (eO 4) (eC (.int 8))) (eC (.int 3))) (eAnd (e2 fLt (e1 fLen (eO 1)) (eC (.int 4))) (eAnd (e2 fEq (e2 fDG (eO 5) (eC (.str t_rows))) (eL [])) (e2 fLt (e1 fLen (e2 fDG (eO 5) (eC (.str t_pieces)))) (eC (.int 8)))))) (kSeq (kApp 1 5 (pDk 5 (pHere 5) (eC (.str t_pieces))) (eCall0 d__law_open)) (kPush 1 5 (pIx 5 (pDk 5 (pHere 5) (eC (.str t_pieces))) (e1 fNeg (eC (.int 1)))))) (kIf 1 5 (eAnd (e2 fEq (e2 fMod (eO 4) (eC (.int 8))) (eC (.int 3))) (e2 fGt (e1 fLen (eO 1)) (eC (.int 1)))) kPop (kIf 1 5 (e2 fEq (e2 fMod (eO 4) (eC (.int 8))) (eC (.int 4))) (kApp 1 5 (pDk 5 (pHere 5) (eC (.str t_headers))) (eT [e2 fAdd (eC (.str t_b)) (e2 fIxO (eC (.str t_bcd)) (e2 fMod (eO 6) (eC (.int 3)))), e2 fAdd (e2 fAdd (eC (.str t_b_563a)) (e1 fStrI (e2 fMod (e2 fDiv (eO 6) (eC (.int 3))) (eC (.int 9))))) (e2 fMul (eC (.str t_x_cf53)) (e2 fMod (e2 fDiv (eO 6) (eC (.int 27))) (eC (.int 40))))])) (kIf 1 5 (e2 fEqE (e2 fDG (eO 5) (eC (.str t_pieces))) (eL [])) (kApp 1 5 (pDk 5 (pHere 5) (eC (.str t_rows))) (eCall d__law_row [eO 6])) (kIf 1 5 (e2 fGt (e1 fLen (eO 1)) (eC (.int 1))) kPop kPass)))))))
def b__law_drawn : Sd := sSeq (sSet 1 (eL [eCall0 d__law_open])) (sStk 1 5 (kSeq (kFor 1 5 (iEnum (iLstS (eFrz (eSlHi (eO 0) (eC (.int 63)))))) (bT [2, 3]) lb1__law_drawn) kRet))
def d__law_drawn : List D → Res D := runF 7 b__law_drawn
def le1__law_border : E := eV 2
def li1__law_border : E := e2 fEq (eSlHi (eO 2) (e1 fLen (e2 fAdd (eC (.str t_b_563a)) (e1 fStrI (eO 1))))) (e2 fAdd (eC (.str t_b_563a)) (e1 fStrI (eO 1)))
def lb1__law_border : Sd := sSet 1 (e2 fAdd (eO 1) (eC (.int 1)))
def lc1__law_border : E := e2 fNe (eComp [2] (iLst (eO 0)) (cN 2) li1__law_border le1__law_border) (eL [])
def b__law_border : Sd := sSeq (sSet 1 (eC (.int 0))) (sSeq (sWhile 1000000 lc1__law_border lb1__law_border) (sRet (e2 fAdd (eC (.str t_b)) (e1 fStrI (eO 1)))))
def d__law_border : List D → Res D := runF 3 b__law_border
def lb1__law_folded : Sd := sSeq (sIf (e2 fGt (e2 fAdd (e2 fAdd (e1 fLen (eO 2)) (eC (.int 1))) (e1 fLen (eO 4))) (eC (.int 60))) (sSeq (sApp 3 (eV 2)) (sSet 2 (eC (.str t__0)))) sPass) (sSet 2 (e2 fAdd (e2 fAdd (eO 2) (eC (.str t__cf45))) (eO 4)))
def b__law_folded : Sd := sSeq (sSet 2 (e2 fAdd (e2 fAdd (e1 fUpper (eSlHi (eO 0) (eC (.int 1)))) (eSlLo (eO 0) (eC (.int 1)))) (eC (.str t__363f)))) (sSeq (sSet 3 (eL [])) (sSeq (sFor (iLstS (eFrz (e2s fSplit (eO 1) (eC (.str t__cf45))))) (bN 4) lb1__law_folded) (sRet (e2 fAdd (eO 3) (eL [eV 2])))))
def d__law_folded : List D → Res D := runF 5 b__law_folded
def lb1__law_due (r__law_due : List D → Res D) : Sd := sSet 1 (e2 fAdd (eO 1) (eCall d__law_folded [eO 6, eO 7]))
def le1__law_due (r__law_due : List D → Res D) : E := eCall r__law_due [eO 8]
def lb2__law_due (r__law_due : List D → Res D) : Sd := sSet 3 (e2 fAdd (eO 3) (eO 4))
def lb3__law_due (r__law_due : List D → Res D) : Sd := sSet 1 (e2 fAdd (e2 fAdd (eO 1) (eL [e2 fAdd (eC (.str t__1465)) (eO 5)])) (eO 4))
def b__law_due (r__law_due : List D → Res D) : Sd := sSeq (sSet 1 (eL [])) (sSeq (sFor (iLstS (eFrz (e2 fDGs (eO 0) (eC (.str t_headers))))) (bT [6, 7]) ((lb1__law_due r__law_due))) (sSeq (sIf (e2 fEqE (e2 fDG (eO 0) (eC (.str t_pieces))) (eL [])) (sRet (e2 fAdd (e2 fAdd (eO 1) (eL [eC (.str t_Bodyplai_7ed4), eC (.str t__0)])) (e2s fSplit (e2s fJoin (eC (.str t__693)) (e2 fDG (eO 0) (eC (.str t_rows)))) (eC (.str t__693))))) sPass) (sSeq (sSet 2 (eComp [8] (iLst (e2 fDG (eO 0) (eC (.str t_pieces)))) (cN 8) eYes ((le1__law_due r__law_due)))) (sSeq (sSet 3 (eL [])) (sSeq (sFrz 2 (sFor (iLstS (eO 2)) (bN 4) ((lb2__law_due r__law_due)))) (sSeq (sSet 5 (eCall d__law_border [eO 3])) (sSeq (sSet 1 (e2 fAdd (eO 1) (eL [e2 fAdd (eC (.str t_Bodypiec_dfb6)) (eO 5), eC (.str t__0)]))) (sSeq (sFrz 2 (sFor (iLstS (eO 2)) (bN 4) ((lb3__law_due r__law_due)))) (sRet (e2 fAdd (eO 1) (eL [e2 fAdd (e2 fAdd (eC (.str t__1465)) (eO 5)) (eC (.str t__1465))])))))))))))
def rec__law_due : Nat → (List D → Res D)
  | 0 => (runF 9 sNo)
  | n + 1 => let r := rec__law_due n; (runF 9 (b__law_due (r)))
def d__law_due (n : Nat) : List D → Res D := (rec__law_due n)
theorem d__law_due_succ (n : Nat) : d__law_due (n + 1) = runF 9 (b__law_due (d__law_due n)) := rfl
def b_Header___init__ : Sd := sSeq (sSetF 0 "Header" "name" (eV 1)) (sSetF 0 "Header" "known" (eV 2))
def d_Header___init__ : List D → ResI := runI 3 b_Header___init__
def b_copied : Sd := sSeq (sIf (e1 (fIsTI .list ct_list) (eO 0)) (sRet (e1 fList (eO 0))) sPass) (sRetM 0)
def d_copied : List D → Res D := runF 1 b_copied
def b_Piece___init__ : Sd := sSeq (sSetF 0 "Piece" "headers" (eCall d_copied [eO 1])) (sSeq (sSetF 0 "Piece" "row" (eCall d_copied [eO 2])) (sSetF 0 "Piece" "pieces" (eCall d_copied [eO 3])))
def d_Piece___init__ : List D → ResI := runI 4 b_Piece___init__
def le1__law_made (r__law_made : List D → Res D) : E := eFrz (eMake "Header" d_Header___init__ [eO 4, eO 5])
def le2__law_made (r__law_made : List D → Res D) : E := e1 fOrd (eO 7)
def le3__law_made (r__law_made : List D → Res D) : E := eFrz (eCall r__law_made [eO 6])
def b__law_made (r__law_made : List D → Res D) : Sd := sSeq (sSet 1 (eComp [4, 5] (iLst (e2 fDG (eO 0) (eC (.str t_headers)))) (cT [4, 5]) eYes ((le1__law_made r__law_made)))) (sSeq (sIf (e2 fEqE (e2 fDG (eO 0) (eC (.str t_pieces))) (eL [])) (sRet (eMakeC "Piece" "headers" "row" "pieces" [.non] [eO 1, eFrz (eComp [7] (iStr (e2s fJoin (eC (.str t__693)) (e2 fDG (eO 0) (eC (.str t_rows))))) (cN 7) eYes ((le2__law_made r__law_made)))])) sPass) (sSeq (sSet 2 (eComp [6] (iLst (e2 fDG (eO 0) (eC (.str t_pieces)))) (cN 6) eYes ((le3__law_made r__law_made)))) (sSeq (sSet 3 (eMakeC "Piece" "headers" "row" "pieces" [] [eO 1, eC .non, eO 2])) (sSeq (sApp 2 (eMakeC "Piece" "headers" "row" "pieces" [.non] [eFrz (eL []), eFrz (eL [eC (.int 98)])])) (sSeq (sApp 1 (eC .non)) (sRetM 3))))))
def rec__law_made : Nat → (List D → Res D)
  | 0 => (runF 8 sNo)
  | n + 1 => let r := rec__law_made n; (runF 8 (b__law_made (r)))
def d__law_made (n : Nat) : List D → Res D := (rec__law_made n)
theorem d__law_made_succ (n : Nat) : d__law_made (n + 1) = runF 8 (b__law_made (d__law_made n)) := rfl
def lb1__law_deep : Sd := sSet 1 (eFrz (eMake "Piece" d_Piece___init__ [eFrz (eL [eMake "Header" d_Header___init__ [eC (.str t_b), eC (.str t_c)]]), eC .non, eFrz (eL [eMakeD "Piece" d_Piece___init__ [.non] [eFrz (eL []), eFrz (eL [eC (.int 98)])], eV 1])]))
def b__law_deep : Sd := sSeq (sFor (iRange1 (eO 0)) (bN 2) lb1__law_deep) (sRetM 1)
def d__law_deep : List D → Res D := runF 3 b__law_deep
def b_is_whole : Sd := sRet (eAnd (e1 (fIsT .int) (eO 0)) (eNot (e1 (fIsT .bool) (eO 0))))
def d_is_whole : List D → Res D := runF 1 b_is_whole
def b_is_byte : Sd := sRet (eAnd (eCall d_is_whole [eO 0]) (eChain fLe fLe (eC (.int 0)) (eO 0) (eC (.int 255))))
def d_is_byte : List D → Res D := runF 1 b_is_byte
def le1_are_bytes : E := eCall d_is_byte [eO 1]
def b_are_bytes : Sd := sRet (eAnd (e1 (fIsT .list) (eO 0)) (e1 fAll (eComp [1] (iLst (eO 0)) (cN 1) eYes le1_are_bytes)))
def d_are_bytes : List D → Res D := runF 2 b_are_bytes
def le1_is_piece (r_is_piece : List D → Res D) : E := eAnd (e1 (fIsI ci_Header) (eO 3)) (e2 fNe (e1 (fFldO "Header" "name") (eO 3)) (eC (.str t_body)))
def le2_is_piece (r_is_piece : List D → Res D) : E := eCall r_is_piece [eO 2, e2 fSub (eO 1) (eC (.int 1))]
def b_is_piece (r_is_piece : List D → Res D) : Sd := sSeq (sIf (eOr (eNot (e1 (fIsI ci_Piece) (eO 0))) (eOr (e2 fEq (eO 1) (eC (.int 0))) (eNot (e1 (fIsTI .list ct_list) (e1 (fFldO "Piece" "headers") (eO 0)))))) (sRet (eC (.bl false))) sPass) (sSeq (sIf (eNot (e1 fAll (eComp [3] (iLst (e1 (fFldO "Piece" "headers") (eO 0))) (cN 3) eYes ((le1_is_piece r_is_piece))))) (sRet (eC (.bl false))) sPass) (sSeq (sIf (e1 fIsN (e1 (fFldO "Piece" "pieces") (eO 0))) (sRet (eCall d_are_bytes [e1 (fFldO "Piece" "row") (eO 0)])) sPass) (sSeq (sIf (eOr (e1 fNotN (e1 (fFldO "Piece" "row") (eO 0))) (eOr (eNot (e1 (fIsTI .list ct_list) (e1 (fFldO "Piece" "pieces") (eO 0)))) (eNot (eChain fLe fLe (eC (.int 1)) (e1 fLen (e1 (fFldO "Piece" "pieces") (eO 0))) (eC (.int 8)))))) (sRet (eC (.bl false))) sPass) (sRet (e1 fAll (eComp [2] (iLst (e1 (fFldO "Piece" "pieces") (eO 0))) (cN 2) eYes ((le2_is_piece r_is_piece))))))))
def rec_is_piece : Nat → (List D → Res D)
  | 0 => (runF 4 sNo)
  | n + 1 => let r := rec_is_piece n; (runF 4 (b_is_piece (r)))
def d_is_piece (n : Nat) : List D → Res D := (rec_is_piece n)
theorem d_is_piece_succ (n : Nat) : d_is_piece (n + 1) = runF 4 (b_is_piece (d_is_piece n)) := rfl
def b_need_piece : Sd := sIf (eNot (eCall (d_is_piece 20) [eO 0, eC (.int 4)])) (sRaise "BadPiece") sPass
def d_need_piece : List D → Res D := runF 1 b_need_piece
def b_Header_value : Sd := sRet (e1 (fFld "Header" "known") (eO 0))
def d_Header_value : List D → Res D := runF 1 b_Header_value
def le1_border_of : E := e2s fStarts (eO 2) (e1 (fFs t_b_563a) (eO 1))
def lb1_border_of : Sd := sSet 1 (e2 fAdd (eO 1) (eC (.int 1)))
def lc1_border_of : E := e1 fAny (eComp [2] (iLst (eO 0)) (cN 2) eYes le1_border_of)
def b_border_of : Sd := sSeq (sSet 1 (eC (.int 0))) (sSeq (sWhile 1000000 lc1_border_of lb1_border_of) (sRet (e1 (fFs t_b) (eO 1))))
def d_border_of : List D → Res D := runF 3 b_border_of
def b_sign_by : Sd := sSeq (sIf (eOr (eNot (eChain fLe fLe (eC (.int 32)) (eO 0) (eC (.int 126)))) (e2 fEq (eO 0) (eC (.int 37)))) (sRet (eC (.str t__0))) sPass) (sRet (e2 fIx (eC (.str t_01234567_b361)) (e2 fSub (e2 fSub (eO 0) (eC (.int 32))) (e1 fInt (e2 fGt (eO 0) (eC (.int 37)))))))
def d_sign_by : List D → Res D := runF 1 b_sign_by
def lb1_plain_rows : Sd := sIf (e2 fEq (eO 2) (eC (.int 10))) (sApp 1 (eC (.str t__0))) (sIf (eOr (e2 fEq (eCall d_sign_by [eO 2]) (eC (.str t__0))) (e2 fEq (e1 fLen (e2 fIxO (eO 1) (e1 fNeg (eC (.int 1))))) (eC (.int 60)))) (sRet (eC .non)) (sSetIx 1 (pHere 1) (e1 fNeg (eC (.int 1))) (e2 fAdd (e2 fIxO (eO 1) (e1 fNeg (eC (.int 1)))) (eCall d_sign_by [eO 2]))))
def le1_plain_rows : E := e2s fEnds (eO 3) (eC (.str t__cf45))
def b_plain_rows : Sd := sSeq (sSet 1 (eL [eC (.str t__0)])) (sSeq (sFor (iLstS (eO 0)) (bN 2) lb1_plain_rows) (sSeq (sIf (e1 fAny (eComp [3] (iLst (eO 1)) (cN 3) eYes le1_plain_rows)) (sRet (eC .non)) sPass) (sRetM 1)))
def d_plain_rows : List D → Res D := runF 4 b_plain_rows
def le1_signs_in : E := e2 fAdd (e1 fLen (eO 1)) (eC (.int 1))
def b_signs_in : Sd := sRet (e1 fSum (eComp [1] (iLst (eO 0)) (cN 1) eYes le1_signs_in))
def d_signs_in : List D → Res D := runF 2 b_signs_in
def le1_cut_rows : E := e1 fLen (eO 4)
def lb1_cut_rows : Sd := sSeq (sIf (eAnd (e2 fGt (e2 fAdd (e1 fLen (eO 2)) (eO 3)) (eC (.int 60))) (e2 fGe (e2 fAdd (e1 fLen (eO 2)) (e1 fLen (eO 4))) (eC (.int 60)))) (sSeq (sApp 1 (e2 fAdd (eO 2) (eC (.str t__a39c)))) (sSet 2 (eC (.str t__0)))) sPass) (sSeq (sSet 2 (e2 fAdd (eO 2) (eO 4))) (sSet 3 (e2 fSub (eO 3) (e1 fLen (eO 4)))))
def b_cut_rows : Sd := sSeq (sSet 1 (eL [])) (sSeq (sSet 2 (eC (.str t__0))) (sSeq (sSet 3 (e1 fSum (eComp [4] (iLst (eO 0)) (cN 4) eYes le1_cut_rows))) (sSeq (sFor (iLstS (eO 0)) (bN 4) lb1_cut_rows) (sRet (e2 fAdd (eO 1) (eL [eV 2]))))))
def d_cut_rows : List D → Res D := runF 5 b_cut_rows
def le1_need_bytes : E := eCall d_is_byte [eO 1]
def b_need_bytes : Sd := sIf (eOr (eNot (e1 (fIsT .list) (eO 0))) (eNot (e1 fAll (eComp [1] (iLst (eO 0)) (cN 1) eYes le1_need_bytes)))) (sRaise "BadBytes") sPass
def d_need_bytes : List D → Res D := runF 2 b_need_bytes
def lb1_parted : Sd := sIf (e2 fEq (eO 2) (eC (.int 10))) (sApp 1 (eL [])) (sAppP 1 (pIx 1 (pHere 1) (e1 fNeg (eC (.int 1)))) (eV 2))
def b_parted : Sd := sSeq (sSet 1 (eL [eL []])) (sSeq (sFor (iLstS (eO 0)) (bN 2) lb1_parted) (sRetM 1))
def d_parted : List D → Res D := runF 3 b_parted
def b_unit_of : Sd := sSeq (sSet 2 (eCall d_sign_by [eO 0])) (sSeq (sIf (eOr (e2 fIn (eO 2) (eT [eC (.str t__0), eC (.str t__a39c)])) (eAnd (e2 fEq (eO 0) (eC (.int 32))) (eV 1))) (sRet (e2 fAdd (e2 fAdd (eC (.str t__a39c)) (e2 fIxO (eC (.str t_01234567_37b5)) (e2 fShr (eO 0) (eC (.int 4))))) (e2 fIxO (eC (.str t_01234567_37b5)) (e2 fBand (eO 0) (eC (.int 15)))))) sPass) (sRetM 2))
def d_unit_of : List D → Res D := runF 3 b_unit_of
def le1_sixteens_of : E := eCall d_unit_of [eO 4, e2 fEq (eO 3) (e2 fSub (e1 fLen (eO 2)) (eC (.int 1)))]
def lb1_sixteens_of : Sd := sExt 1 (eCall d_cut_rows [eComp [3, 4] (iEnum (iLst (eO 2))) (cT [3, 4]) eYes le1_sixteens_of])
def b_sixteens_of : Sd := sSeq (sDrop (eCall d_need_bytes [eO 0])) (sSeq (sSet 1 (eL [])) (sSeq (sFor (iLstS (eFrz (eCall d_parted [eO 0]))) (bN 2) lb1_sixteens_of) (sRetM 1)))
def d_sixteens_of : List D → Res D := runF 5 b_sixteens_of
def lb1_four_of : Sd := sSet 1 (e2 fBor (e2 fShl (eO 1) (eC (.int 8))) (eO 2))
def lb2_four_of : Sd := sSet 3 (e2 fAdd (eO 3) (e2 fIxO (eC (.str t_ABCDEFGH_2ddd)) (e2 fBand (e2 fShr (eO 1) (eO 4)) (eC (.int 63)))))
def b_four_of : Sd := sSeq (sSet 1 (eC (.int 0))) (sSeq (sFor (iLstS (eFrz (e2 fAdd (eO 0) (e2 fMul (eL [eC (.int 0)]) (e2 fSub (eC (.int 3)) (e1 fLen (eO 0))))))) (bN 2) lb1_four_of) (sSeq (sSet 3 (eC (.str t__0))) (sSeq (sFor (iTupS (eFrz (eT [eC (.int 18), eC (.int 12), eC (.int 6), eC (.int 0)]))) (bN 4) lb2_four_of) (sRet (e2 fAdd (eSlHi (eO 3) (e2 fAdd (e1 fLen (eO 0)) (eC (.int 1)))) (e2 fMul (eC (.str t__a39c)) (e2 fSub (eC (.int 3)) (e1 fLen (eO 0)))))))))
def d_four_of : List D → Res D := runF 5 b_four_of
def le1_sixty_of : E := eCall d_four_of [e1 fList (eSlLH (eO 0) (eO 2) (e2 fAdd (eO 2) (eC (.int 3))))]
def le2_sixty_of : E := eSlLH (eO 1) (eO 2) (e2 fAdd (eO 2) (eC (.int 60)))
def b_sixty_of : Sd := sSeq (sDrop (eCall d_need_bytes [eO 0])) (sSeq (sSet 1 (e2s fJoin (eC (.str t__0)) (eComp [2] (iRange3v (eC (.int 0)) (e1 fLen (eO 0)) (eC (.int 3))) (cN 2) eYes le1_sixty_of))) (sRet (eComp [2] (iRange3v (eC (.int 0)) (e1 fLen (eO 1)) (eC (.int 60))) (cN 2) eYes le2_sixty_of)))
def d_sixty_of : List D → Res D := runF 3 b_sixty_of
def b_bytes_written : Sd := sSeq (sSet 1 (eCall d_plain_rows [eO 0])) (sSeq (sIf (e1 fNotN (eO 1)) (sFrz 1 (sRet (eT [eC (.str t_plain), eV 1]))) sPass) (sSeq (sSet 1 (eCall d_sixteens_of [eO 0])) (sSeq (sSet 2 (eCall d_sixty_of [eO 0])) (sSeq (sIf (e2 fLt (eCall d_signs_in [eO 2]) (eCall d_signs_in [eO 1])) (sFrz 2 (sRet (eT [eC (.str t_sixty), eV 2]))) sPass) (sFrz 1 (sRet (eT [eC (.str t_sixteens), eV 1])))))))
def d_bytes_written : List D → Res D := runF 3 b_bytes_written
def le1_are_among : E := e2 fIn (eO 2) (eO 1)
def b_are_among : Sd := sRet (e1 fAll (eComp [2] (iStr (eO 0)) (cN 2) eYes le1_are_among))
def d_are_among : List D → Res D := runF 3 b_are_among
def le1_is_header_name : E := eAnd (eChain fLe fLe (eC (.int 1)) (e1 fLen (eO 2)) (eC (.int 8))) (eCall d_are_among [eO 2, eC (.str t_abcdefgh_50bd)])
def b_is_header_name : Sd := sSeq (sIf (eNot (e1 (fIsT .str) (eO 0))) (sRet (eC (.bl false))) sPass) (sSeq (sSet 1 (e2s fSplit (eO 0) (eC (.str t__b3f8)))) (sSeq (sIf (e2 fGt (e1 fLen (eO 1)) (eC (.int 3))) (sRet (eC (.bl false))) sPass) (sRet (e1 fAll (eComp [2] (iLst (eO 1)) (cN 2) eYes le1_is_header_name)))))
def d_is_header_name : List D → Res D := runF 3 b_is_header_name
def b_is_value : Sd := sSeq (sIf (eOr (eNot (e1 (fIsT .str) (eO 0))) (eNot (eCall d_are_among [eO 0, eC (.str t_01234567_b361)]))) (sRet (eC (.bl false))) sPass) (sRet (eOr (e2 fEq (eO 0) (eC (.str t__0))) (e2 fNin (eC (.str t__0)) (e2s fSplit (eO 0) (eC (.str t__cf45))))))
def d_is_value : List D → Res D := runF 1 b_is_value
def le1_words_in : E := eV 1
def li1_words_in : E := e2 fNe (eO 1) (eC (.str t__0))
def b_words_in : Sd := sRet (eComp [1] (iLst (e2s fSplit (eO 0) (eC (.str t__cf45)))) (cN 1) li1_words_in le1_words_in)
def d_words_in : List D → Res D := runF 2 b_words_in
def le1_folded : E := e2 fGe (e1 fLen (eO 4)) (eC (.int 60))
def le2_folded : E := e2 fAdd (e1 fUpper (e2 fIxO (eO 4) (eC (.int 0)))) (eSlLo (eO 4) (eC (.int 1)))
def lb1_folded : Sd := sSeq (sIf (e2 fGt (e2 fAdd (e2 fAdd (e1 fLen (eO 2)) (eC (.int 1))) (e1 fLen (eO 4))) (eC (.int 60))) (sSeq (sApp 3 (eV 2)) (sSet 2 (eC (.str t__0)))) sPass) (sSet 2 (e2 fAdd (e2 fAdd (eO 2) (eC (.str t__cf45))) (eO 4)))
def b_folded : Sd := sSeq (sIf (eNot (eCall d_is_header_name [eO 0])) (sRaise "BadName") sPass) (sSeq (sIf (eNot (eCall d_is_value [eO 1])) (sRaise "BadValue") sPass) (sSeq (sIf (e1 fAny (eComp [4] (iLst (eCall d_words_in [eO 1])) (cN 4) eYes le1_folded)) (sRaise "TooLong") sPass) (sSeq (sSet 2 (e2 fAdd (e2s fJoin (eC (.str t__b3f8)) (eComp [4] (iLst (e2s fSplit (eO 0) (eC (.str t__b3f8)))) (cN 4) eYes le2_folded)) (eC (.str t__363f)))) (sSeq (sSet 3 (eL [])) (sSeq (sFor (iLstS (eFrz (eCall d_words_in [eO 1]))) (bN 4) lb1_folded) (sRet (e2 fAdd (eO 3) (eL [eV 2]))))))))
def d_folded : List D → Res D := runF 5 b_folded
def lb1_rows_written (r_rows_written : List D → Res D) (r_body_written : List D → Res D) : Sd := sExt 1 (eCall d_folded [e1 (fFldO "Header" "name") (eO 2), eMeth "Header" "value" (eO 2) d_Header_value []])
def b_rows_written (r_rows_written : List D → Res D) (r_body_written : List D → Res D) : Sd := sSeq (sSet 1 (eL [])) (sSeq (sFor (iLstS (eFrz (e1 (fFld "Piece" "headers") (eO 0)))) (bN 2) ((lb1_rows_written r_rows_written r_body_written))) (sSeq (sBind (bT [3, 4]) (eFrz (eCall r_body_written [eO 0]))) (sRet (e2 fAdd (e2 fAdd (e2 fAdd (eO 1) (eCall d_folded [eC (.str t_body), eO 3])) (eL [eC (.str t__0)])) (eO 4)))))
def le1_body_written (r_rows_written : List D → Res D) (r_body_written : List D → Res D) : E := eFrz (eCall r_rows_written [eO 6])
def lb1_body_written (r_rows_written : List D → Res D) (r_body_written : List D → Res D) : Sd := sExt 2 (eV 3)
def lb2_body_written (r_rows_written : List D → Res D) (r_body_written : List D → Res D) : Sd := sSeq (sApp 5 (e2 fAdd (eC (.str t__1465)) (eO 4))) (sExt 5 (eV 3))
def b_body_written (r_rows_written : List D → Res D) (r_body_written : List D → Res D) : Sd := sSeq (sIf (e1 fIsN (e1 (fFldO "Piece" "pieces") (eO 0))) (sRet (eCall d_bytes_written [e1 (fFldO "Piece" "row") (eO 0)])) sPass) (sSeq (sSet 1 (eComp [6] (iLst (e1 (fFldO "Piece" "pieces") (eO 0))) (cN 6) eYes ((le1_body_written r_rows_written r_body_written)))) (sSeq (sFrz 1 (sSet 2 (eL []))) (sSeq (sFrz 1 (sFor (iLstS (eO 1)) (bN 3) ((lb1_body_written r_rows_written r_body_written)))) (sSeq (sSet 4 (eCall d_border_of [eO 2])) (sSeq (sSet 5 (eL [])) (sSeq (sFrz 1 (sFor (iLstS (eO 1)) (bN 3) ((lb2_body_written r_rows_written r_body_written)))) (sFrz 5 (sRet (eT [e2 fAdd (eC (.str t_pieces_f221)) (eO 4), e2 fAdd (eO 5) (eL [e2 fAdd (e2 fAdd (eC (.str t__1465)) (eO 4)) (eC (.str t__1465))])])))))))))
def rec_rows_written : Nat → (List D → Res D) × (List D → Res D)
  | 0 => (runF 5 sNo, runF 7 sNo)
  | n + 1 => let r := rec_rows_written n; (runF 5 (b_rows_written (r.1) (r.2)), runF 7 (b_body_written (r.1) (r.2)))
def d_rows_written (n : Nat) : List D → Res D := (rec_rows_written n).1
def d_body_written (n : Nat) : List D → Res D := (rec_rows_written n).2
theorem d_rows_written_succ (n : Nat) : d_rows_written (n + 1) = runF 5 (b_rows_written (d_rows_written n) (d_body_written n)) := rfl
theorem d_body_written_succ (n : Nat) : d_body_written (n + 1) = runF 7 (b_body_written (d_rows_written n) (d_body_written n)) := rfl
def b_piece_rows : Sd := sSeq (sDrop (eCall d_need_piece [eO 0])) (sRet (eCall (d_rows_written 20) [eO 0]))
def d_piece_rows : List D → Res D := runF 1 b_piece_rows
def b__law_word_of : Sd := sSeq (sSet 1 (eC .non)) (sSeq (sTryKeep (sDrop (eCall d_piece_rows [eO 0])) (supL es_HouseError) 2 1) (sSeq (sIf (e1 fIsN (eO 1)) (sRet (eL [])) sPass) (sSeq (sSet 3 (eL [e1 (fIsX (supL cs_BadPiece)) (eO 1), e1 (fIsX (supL cs_BadBody)) (eO 1), e1 (fIsX (supL cs_BadBytes)) (eO 1)])) (sSeq (sSet 3 (e2 fAdd (eO 3) (eL [e1 (fIsX (supL cs_BadHeader)) (eO 1), e1 (fIsX (supL cs_BadName)) (eO 1), e1 (fIsX (supL cs_BadRow)) (eO 1)]))) (sRet (e2 fAdd (eO 3) (eL [e1 (fIsX (supL cs_BadValue)) (eO 1), e1 (fIsX (supL cs_TooLong)) (eO 1), e1 (fIsX (supL cs_ValueError)) (eO 1)])))))))
def d__law_word_of : List D → Res D := runF 4 b__law_word_of
def lb1__law_refused : Sd := sIf (e2 fNe (eCall d__law_word_of [eO 7]) (eO 4)) (sRet (eC (.bl false))) sPass
def b__law_refused : Sd := sSeq (sSet 2 (eFrz (eL [eMake "Header" d_Header___init__ [eC (.str t_b), eC (.str t_c)]]))) (sSeq (sSet 3 (eFrz (eFrz (eL [eC .non, eC (.int 5), eC (.str t_row), eL [], eD0, eC (.bl true), eMakeD "Piece" d_Piece___init__ [.non, .non] [eO 2], eMake "Piece" d_Piece___init__ [eO 2, eFrz (eL [eC (.int 98)]), eFrz (eL [eV 1])], eMake "Piece" d_Piece___init__ [eO 2, eC .non, eFrz (eL [])]])))) (sSeq (sSet 3 (eFrz (e2 fAdd (eO 3) (eFrz (eFrz (eL [eMakeD "Piece" d_Piece___init__ [.non] [eO 2, eFrz (eL [eC (.int 256)])], eMakeD "Piece" d_Piece___init__ [.non] [eO 2, eFrz (eL [e1 fNeg (eC (.int 1))])], eMakeD "Piece" d_Piece___init__ [.non] [eO 2, eFrz (eL [eC (.bl true)])], eMakeD "Piece" d_Piece___init__ [.non] [eO 2, eFrz (eL [eC (.str t_b)])], eMakeD "Piece" d_Piece___init__ [.non] [eO 2, eFrz (eL [eC .non])]])))))) (sSeq (sSet 3 (eFrz (e2 fAdd (eO 3) (eFrz (eFrz (eL [eMakeD "Piece" d_Piece___init__ [.non] [eFrz (e2 fAdd (eO 2) (eL [eC (.int 5)])), eFrz (eL [eC (.int 98)])], eMakeD "Piece" d_Piece___init__ [.non] [eFrz (eL [eC (.str t_b)]), eFrz (eL [eC (.int 98)])], eMakeD "Piece" d_Piece___init__ [.non] [eFrz (eL [eMake "Header" d_Header___init__ [eC (.str t_body), eC (.str t_plain)]]), eFrz (eL [eC (.int 98)])]])))))) (sSeq (sSet 3 (eFrz (e2 fAdd (eO 3) (eFrz (eFrz (eL [eMake "Piece" d_Piece___init__ [eO 2, eC .non, eFrz (e2 fMul (eFrz (eL [eMakeD "Piece" d_Piece___init__ [.non] [eFrz (eL []), eFrz (eL [eC (.int 98)])]])) (eC (.int 9)))], eMake "Piece" d_Piece___init__ [eO 2, eC .non, eFrz (eL [eC .non])], eMake "Piece" d_Piece___init__ [eO 2, eC .non, eFrz (eL [eV 2])]])))))) (sSeq (sSet 3 (eFrz (e2 fAdd (eO 3) (eFrz (eFrz (eL [eCall d__law_deep [eC (.int 4), eFrz (eMakeD "Piece" d_Piece___init__ [.non] [eO 2, eFrz (eL [eC (.int 98)])])], eMakeD "Piece" d_Piece___init__ [.non] [eO 2, eFrz (eL [eC (.int 98), e2 fPow (eC (.int 10)) (eC (.int 20))])], eMakeD "Piece" d_Piece___init__ [.non] [eC .non, eFrz (eL [eC (.int 98)])]])))))) (sSeq (sSet 3 (eFrz (e2 fAdd (eO 3) (eFrz (eFrz (eL [eMake "Piece" d_Piece___init__ [eFrz (eL [eC .non]), eC .non, eFrz (eL [eMakeD "Piece" d_Piece___init__ [.non] [eFrz (eL []), eFrz (eL [eC (.int 98)])]])], eMakeD "Piece" d_Piece___init__ [.non] [eO 2, eC (.str t_row)], eMake "Piece" d_Piece___init__ [eO 2, eC .non, eO 1]])))))) (sSeq (sSet 4 (e2 fAdd (e2 fAdd (eL [eC (.bl true)]) (e2 fMul (eL [eC (.bl false)]) (eC (.int 7)))) (eL [eC (.bl true)]))) (sSeq (sSet 5 (eFrz (eL [eMake "Header" d_Header___init__ [eC (.str t_x), eFrz (e2 fMul (eC (.str t_b)) (e2 fAdd (eC (.int 60)) (e2 fMod (eO 0) (eC (.int 9)))))]]))) (sSeq (sSet 6 (eFrz (eMake "Piece" d_Piece___init__ [eO 5, eC .non, eFrz (eL [eMakeD "Piece" d_Piece___init__ [.non] [eFrz (eL []), eFrz (eL [eC (.int 98)])], e2 fIx (eO 3) (e2 fMod (e2 fDiv (eO 0) (eC (.int 2028))) (eC (.int 26)))])]))) (sSeq (sFor (iLstS (eFrz (eL [e2 fIx (eO 3) (e2 fMod (eO 0) (eC (.int 26))), eCall d__law_deep [e2 fAdd (eC (.int 1)) (e2 fMod (e2 fDiv (eO 0) (eC (.int 26))) (eC (.int 3))), e2 fIxO (eO 3) (e2 fMod (e2 fDiv (eO 0) (eC (.int 78))) (eC (.int 26)))], eV 6]))) (bN 7) lb1__law_refused) (sRet (e2 fEq (eCall d__law_word_of [eCall d__law_deep [eC (.int 3), eFrz (eMakeD "Piece" d_Piece___init__ [.non] [eO 2, eFrz (eL [eC (.int 98)])])]]) (eL [])))))))))))))
def d__law_refused : List D → Res D := runF 8 b__law_refused
def lb1_law : Sd := sSeq (sSet 7 (eCall d_piece_rows [eO 2])) (sSeq (sIf (eOr (eNot (e1 (fIsT .list) (eO 7))) (e2 fNe (eO 7) (eO 3))) (sRet (eC (.bl false))) sPass) (sDropM (mClear 7 (pHere 7))))
def le1_law : E := e2 fMul (e1 fLen (eO 8)) (e2 fAdd (eO 6) (eC (.int 1)))
def lb2_law : Sd := sIf (eNot (eCall d__law_refused [eCall d__law_mixed [eO 5, eO 6], eO 2])) (sRet (eC (.bl false))) sPass
def b_law : Sd := sSeq (sSet 1 (eFrz (eCall d__law_drawn [eO 0]))) (sSeq (sSet 2 (eCall (d__law_made 20) [eO 1])) (sSeq (sSet 3 (eCall (d__law_due 20) [eO 1])) (sSeq (sFor (iRange1 (eC (.int 2))) (bN 4) lb1_law) (sSeq (sSet 5 (e1 fSum (eComp [6, 8] (iEnum (iLst (eO 3))) (cT [6, 8]) eYes le1_law))) (sSeq (sFor (iRange1 (eC (.int 3))) (bN 6) lb2_law) (sRet (e2 fEq (eCall d_piece_rows [eO 2]) (eO 3))))))))
def d_law : List D → Res D := runF 9 b_law
end Lk21
set_option maxHeartbeats 4000000
namespace Lk21
open PySem PySem.Spec PyProof.Rows L2 G
def topS (i : Nat) : Stmt := PySem.Challenge.pw_letterhouse_k21_borders_round_pieces.main.body.getD i (.Pass ⟨0, 0, 0, 0⟩)
theorem e_t_headers : Str.ofString "headers" = tS t_headers := by decide +kernel
theorem c_t_headers : t_headers.all (fun c => decide (c < 0x110000)) = true := by decide +kernel
theorem e_t_rows : Str.ofString "rows" = tS t_rows := by decide +kernel
theorem c_t_rows : t_rows.all (fun c => decide (c < 0x110000)) = true := by decide +kernel
theorem e_t_pieces : Str.ofString "pieces" = tS t_pieces := by decide +kernel
theorem c_t_pieces : t_pieces.all (fun c => decide (c < 0x110000)) = true := by decide +kernel
theorem e_t_b_563a : Str.ofString "--b" = tS t_b_563a := by decide +kernel
theorem c_t_b_563a : t_b_563a.all (fun c => decide (c < 0x110000)) = true := by decide +kernel
theorem e_t_b_4864 : Str.ofString "-b" = tS t_b_4864 := by decide +kernel
theorem c_t_b_4864 : t_b_4864.all (fun c => decide (c < 0x110000)) = true := by decide +kernel
theorem e_t_B_76f2 : Str.ofString "--B" = tS t_B_76f2 := by decide +kernel
theorem c_t_B_76f2 : t_B_76f2.all (fun c => decide (c < 0x110000)) = true := by decide +kernel
theorem e_t_b : Str.ofString "b" = tS t_b := by decide +kernel
theorem c_t_b : t_b.all (fun c => decide (c < 0x110000)) = true := by decide +kernel
theorem e_t__1465 : Str.ofString "--" = tS t__1465 := by decide +kernel
theorem c_t__1465 : t__1465.all (fun c => decide (c < 0x110000)) = true := by decide +kernel
theorem e_t__0 : Str.ofString "" = tS t__0 := by decide +kernel
theorem c_t__0 : t__0.all (fun c => decide (c < 0x110000)) = true := by decide +kernel
theorem e_t_x : Str.ofString "x" = tS t_x := by decide +kernel
theorem c_t_x : t_x.all (fun c => decide (c < 0x110000)) = true := by decide +kernel
theorem e_t_b_3629 : Str.ofString " b" = tS t_b_3629 := by decide +kernel
theorem c_t_b_3629 : t_b_3629.all (fun c => decide (c < 0x110000)) = true := by decide +kernel
theorem e_t_0 : Str.ofString "0" = tS t_0 := by decide +kernel
theorem c_t_0 : t_0.all (fun c => decide (c < 0x110000)) = true := by decide +kernel
theorem e_t_bcd : Str.ofString "bcd" = tS t_bcd := by decide +kernel
theorem c_t_bcd : t_bcd.all (fun c => decide (c < 0x110000)) = true := by decide +kernel
theorem e_t_x_cf53 : Str.ofString " x" = tS t_x_cf53 := by decide +kernel
theorem c_t_x_cf53 : t_x_cf53.all (fun c => decide (c < 0x110000)) = true := by decide +kernel
theorem e_t__363f : Str.ofString ":" = tS t__363f := by decide +kernel
theorem c_t__363f : t__363f.all (fun c => decide (c < 0x110000)) = true := by decide +kernel
theorem e_t__cf45 : Str.ofString " " = tS t__cf45 := by decide +kernel
theorem c_t__cf45 : t__cf45.all (fun c => decide (c < 0x110000)) = true := by decide +kernel
theorem e_t_Bodyplai_7ed4 : Str.ofString "Body: plain" = tS t_Bodyplai_7ed4 := by decide +kernel
theorem c_t_Bodyplai_7ed4 : t_Bodyplai_7ed4.all (fun c => decide (c < 0x110000)) = true := by decide +kernel
theorem e_t__693 : Str.ofString "\n" = tS t__693 := by decide +kernel
theorem c_t__693 : t__693.all (fun c => decide (c < 0x110000)) = true := by decide +kernel
theorem e_t_Bodypiec_dfb6 : Str.ofString "Body: pieces " = tS t_Bodypiec_dfb6 := by decide +kernel
theorem c_t_Bodypiec_dfb6 : t_Bodypiec_dfb6.all (fun c => decide (c < 0x110000)) = true := by decide +kernel
theorem e_t_c : Str.ofString "c" = tS t_c := by decide +kernel
theorem c_t_c : t_c.all (fun c => decide (c < 0x110000)) = true := by decide +kernel
theorem e_t_body : Str.ofString "body" = tS t_body := by decide +kernel
theorem c_t_body : t_body.all (fun c => decide (c < 0x110000)) = true := by decide +kernel
theorem c_t_01234567_b361 : t_01234567_b361.all (fun c => decide (c < 0x110000)) = true := by decide +kernel
theorem e_t__a39c : Str.ofString "=" = tS t__a39c := by decide +kernel
theorem c_t__a39c : t__a39c.all (fun c => decide (c < 0x110000)) = true := by decide +kernel
theorem c_t_01234567_37b5 : t_01234567_37b5.all (fun c => decide (c < 0x110000)) = true := by decide +kernel
theorem c_t_ABCDEFGH_2ddd : t_ABCDEFGH_2ddd.all (fun c => decide (c < 0x110000)) = true := by decide +kernel
theorem e_t_plain : Str.ofString "plain" = tS t_plain := by decide +kernel
theorem c_t_plain : t_plain.all (fun c => decide (c < 0x110000)) = true := by decide +kernel
theorem e_t_sixty : Str.ofString "sixty" = tS t_sixty := by decide +kernel
theorem c_t_sixty : t_sixty.all (fun c => decide (c < 0x110000)) = true := by decide +kernel
theorem e_t_sixteens : Str.ofString "sixteens" = tS t_sixteens := by decide +kernel
theorem c_t_sixteens : t_sixteens.all (fun c => decide (c < 0x110000)) = true := by decide +kernel
theorem e_t__b3f8 : Str.ofString "-" = tS t__b3f8 := by decide +kernel
theorem c_t__b3f8 : t__b3f8.all (fun c => decide (c < 0x110000)) = true := by decide +kernel
theorem c_t_abcdefgh_50bd : t_abcdefgh_50bd.all (fun c => decide (c < 0x110000)) = true := by decide +kernel
theorem e_t_pieces_f221 : Str.ofString "pieces " = tS t_pieces_f221 := by decide +kernel
theorem c_t_pieces_f221 : t_pieces_f221.all (fun c => decide (c < 0x110000)) = true := by decide +kernel
theorem e_t_row : Str.ofString "row" = tS t_row := by decide +kernel
theorem c_t_row : t_row.all (fun c => decide (c < 0x110000)) = true := by decide +kernel
abbrev s__law_mixed : Stmt := topS 62
theorem sc__law_mixed : FnScope ["_law_cell", "_law_k", "_law_number"] ["_law_cell", "_law_k"] (defScope s__law_mixed) := ⟨rfl, rfl, rfl, by decide +kernel, rfl, by decide +kernel, by decide +kernel⟩
abbrev s__law_open : Stmt := topS 63
theorem sc__law_open : FnScope [] [] (defScope s__law_open) := ⟨rfl, rfl, rfl, by decide +kernel, rfl, by decide +kernel, by decide +kernel⟩
abbrev s__law_row : Stmt := topS 64
theorem sc__law_row : FnScope ["_law_n", "_law_number", "_law_row_here"] ["_law_n"] (defScope s__law_row) := ⟨rfl, rfl, rfl, by decide +kernel, rfl, by decide +kernel, by decide +kernel⟩
abbrev s__law_drawn : Stmt := topS 65
theorem sc__law_drawn : FnScope ["_law_script", "_law_stack", "_law_k", "_law_cell", "_law_n", "_law_top", "_law_more"] ["_law_script"] (defScope s__law_drawn) := ⟨rfl, rfl, rfl, by decide +kernel, rfl, by decide +kernel, by decide +kernel⟩
abbrev s__law_border : Stmt := topS 68
theorem sc__law_border : FnScope ["_law_rows", "_law_number", "_law_row_here"] ["_law_rows"] (defScope s__law_border) := ⟨rfl, rfl, rfl, by decide +kernel, rfl, by decide +kernel, by decide +kernel⟩
abbrev s__law_folded : Stmt := topS 67
theorem sc__law_folded : FnScope ["_law_name", "_law_value", "_law_row_here", "_law_rows", "_law_word"] ["_law_name", "_law_value"] (defScope s__law_folded) := ⟨rfl, rfl, rfl, by decide +kernel, rfl, by decide +kernel, by decide +kernel⟩
abbrev s__law_due : Stmt := topS 69
theorem sc__law_due : FnScope ["_law_told", "_law_rows", "_law_groups", "_law_whole", "_law_group", "_law_border_here", "_law_name", "_law_value", "_law_one"] ["_law_told"] (defScope s__law_due) := ⟨rfl, rfl, rfl, by decide +kernel, rfl, by decide +kernel, by decide +kernel⟩
abbrev s_Header___init__ : Stmt := inClass (topS 38) 0
theorem sc_Header___init__ : FnScope ["self", "name", "text"] ["self", "name", "text"] (defScope s_Header___init__) := ⟨rfl, rfl, rfl, by decide +kernel, rfl, by decide +kernel, by decide +kernel⟩
abbrev s_copied : Stmt := topS 50
theorem sc_copied : FnScope ["thing"] ["thing"] (defScope s_copied) := ⟨rfl, rfl, rfl, by decide +kernel, rfl, by decide +kernel, by decide +kernel⟩
abbrev s_Piece___init__ : Stmt := inClass (topS 49) 0
theorem sc_Piece___init__ : FnScope ["self", "headers", "row", "pieces"] ["self", "headers", "row", "pieces"] (defScope s_Piece___init__) := ⟨rfl, rfl, rfl, by decide +kernel, rfl, by decide +kernel, by decide +kernel⟩
abbrev s__law_made : Stmt := topS 66
theorem sc__law_made : FnScope ["_law_told", "_law_headers", "_law_inner", "_law_piece", "_law_name", "_law_value", "_law_one", "_law_sign"] ["_law_told"] (defScope s__law_made) := ⟨rfl, rfl, rfl, by decide +kernel, rfl, by decide +kernel, by decide +kernel⟩
abbrev s__law_deep : Stmt := topS 70
theorem sc__law_deep : FnScope ["_law_many", "_law_odd", "_law_turn"] ["_law_many", "_law_odd"] (defScope s__law_deep) := ⟨rfl, rfl, rfl, by decide +kernel, rfl, by decide +kernel, by decide +kernel⟩
abbrev s_is_whole : Stmt := topS 21
theorem sc_is_whole : FnScope ["thing"] ["thing"] (defScope s_is_whole) := ⟨rfl, rfl, rfl, by decide +kernel, rfl, by decide +kernel, by decide +kernel⟩
abbrev s_is_byte : Stmt := topS 22
theorem sc_is_byte : FnScope ["thing"] ["thing"] (defScope s_is_byte) := ⟨rfl, rfl, rfl, by decide +kernel, rfl, by decide +kernel, by decide +kernel⟩
abbrev s_are_bytes : Stmt := topS 51
theorem sc_are_bytes : FnScope ["thing", "one"] ["thing"] (defScope s_are_bytes) := ⟨rfl, rfl, rfl, by decide +kernel, rfl, by decide +kernel, by decide +kernel⟩
abbrev s_is_piece : Stmt := topS 52
theorem sc_is_piece : FnScope ["thing", "deep", "one", "header"] ["thing", "deep"] (defScope s_is_piece) := ⟨rfl, rfl, rfl, by decide +kernel, rfl, by decide +kernel, by decide +kernel⟩
abbrev s_need_piece : Stmt := topS 53
theorem sc_need_piece : FnScope ["thing"] ["thing"] (defScope s_need_piece) := ⟨rfl, rfl, rfl, by decide +kernel, rfl, by decide +kernel, by decide +kernel⟩
abbrev s_Header_value : Stmt := inClass (topS 38) 1
theorem sc_Header_value : FnScope ["self"] ["self"] (defScope s_Header_value) := ⟨rfl, rfl, rfl, by decide +kernel, rfl, by decide +kernel, by decide +kernel⟩
abbrev s_border_of : Stmt := topS 57
theorem sc_border_of : FnScope ["rows", "number", "row"] ["rows"] (defScope s_border_of) := ⟨rfl, rfl, rfl, by decide +kernel, rfl, by decide +kernel, by decide +kernel⟩
abbrev s_sign_by : Stmt := topS 25
theorem sc_sign_by : FnScope ["byte"] ["byte"] (defScope s_sign_by) := ⟨rfl, rfl, rfl, by decide +kernel, rfl, by decide +kernel, by decide +kernel⟩
abbrev s_plain_rows : Stmt := topS 54
theorem sc_plain_rows : FnScope ["row", "rows", "byte", "one"] ["row"] (defScope s_plain_rows) := ⟨rfl, rfl, rfl, by decide +kernel, rfl, by decide +kernel, by decide +kernel⟩
abbrev s_signs_in : Stmt := topS 55
theorem sc_signs_in : FnScope ["rows", "row"] ["rows"] (defScope s_signs_in) := ⟨rfl, rfl, rfl, by decide +kernel, rfl, by decide +kernel, by decide +kernel⟩
abbrev s_cut_rows : Stmt := topS 43
theorem sc_cut_rows : FnScope ["units", "rows", "row", "left", "unit"] ["units"] (defScope s_cut_rows) := ⟨rfl, rfl, rfl, by decide +kernel, rfl, by decide +kernel, by decide +kernel⟩
abbrev s_need_bytes : Stmt := topS 24
theorem sc_need_bytes : FnScope ["row", "byte"] ["row"] (defScope s_need_bytes) := ⟨rfl, rfl, rfl, by decide +kernel, rfl, by decide +kernel, by decide +kernel⟩
abbrev s_parted : Stmt := topS 41
theorem sc_parted : FnScope ["row", "found", "byte"] ["row"] (defScope s_parted) := ⟨rfl, rfl, rfl, by decide +kernel, rfl, by decide +kernel, by decide +kernel⟩
abbrev s_unit_of : Stmt := topS 42
theorem sc_unit_of : FnScope ["byte", "is_end", "sign"] ["byte", "is_end"] (defScope s_unit_of) := ⟨rfl, rfl, rfl, by decide +kernel, rfl, by decide +kernel, by decide +kernel⟩
abbrev s_sixteens_of : Stmt := topS 44
theorem sc_sixteens_of : FnScope ["row", "found", "part", "at", "byte"] ["row"] (defScope s_sixteens_of) := ⟨rfl, rfl, rfl, by decide +kernel, rfl, by decide +kernel, by decide +kernel⟩
abbrev s_four_of : Stmt := topS 35
theorem sc_four_of : FnScope ["three", "number", "byte", "found", "shift"] ["three"] (defScope s_four_of) := ⟨rfl, rfl, rfl, by decide +kernel, rfl, by decide +kernel, by decide +kernel⟩
abbrev s_sixty_of : Stmt := topS 36
theorem sc_sixty_of : FnScope ["row", "text", "at"] ["row"] (defScope s_sixty_of) := ⟨rfl, rfl, rfl, by decide +kernel, rfl, by decide +kernel, by decide +kernel⟩
abbrev s_bytes_written : Stmt := topS 56
theorem sc_bytes_written : FnScope ["row", "rows", "others"] ["row"] (defScope s_bytes_written) := ⟨rfl, rfl, rfl, by decide +kernel, rfl, by decide +kernel, by decide +kernel⟩
abbrev s_are_among : Stmt := topS 23
theorem sc_are_among : FnScope ["text", "signs", "sign"] ["text", "signs"] (defScope s_are_among) := ⟨rfl, rfl, rfl, by decide +kernel, rfl, by decide +kernel, by decide +kernel⟩
abbrev s_is_header_name : Stmt := topS 29
theorem sc_is_header_name : FnScope ["thing", "words", "word"] ["thing"] (defScope s_is_header_name) := ⟨rfl, rfl, rfl, by decide +kernel, rfl, by decide +kernel, by decide +kernel⟩
abbrev s_is_value : Stmt := topS 30
theorem sc_is_value : FnScope ["thing"] ["thing"] (defScope s_is_value) := ⟨rfl, rfl, rfl, by decide +kernel, rfl, by decide +kernel, by decide +kernel⟩
abbrev s_words_in : Stmt := topS 31
theorem sc_words_in : FnScope ["text", "word"] ["text"] (defScope s_words_in) := ⟨rfl, rfl, rfl, by decide +kernel, rfl, by decide +kernel, by decide +kernel⟩
abbrev s_folded : Stmt := topS 32
theorem sc_folded : FnScope ["name", "value", "row", "rows", "word"] ["name", "value"] (defScope s_folded) := ⟨rfl, rfl, rfl, by decide +kernel, rfl, by decide +kernel, by decide +kernel⟩
abbrev s_rows_written : Stmt := topS 59
theorem sc_rows_written : FnScope ["piece", "rows", "header", "value", "behind"] ["piece"] (defScope s_rows_written) := ⟨rfl, rfl, rfl, by decide +kernel, rfl, by decide +kernel, by decide +kernel⟩
abbrev s_body_written : Stmt := topS 58
theorem sc_body_written : FnScope ["piece", "groups", "whole", "group", "border", "rows", "one"] ["piece"] (defScope s_body_written) := ⟨rfl, rfl, rfl, by decide +kernel, rfl, by decide +kernel, by decide +kernel⟩
abbrev s_piece_rows : Stmt := topS 60
theorem sc_piece_rows : FnScope ["piece"] ["piece"] (defScope s_piece_rows) := ⟨rfl, rfl, rfl, by decide +kernel, rfl, by decide +kernel, by decide +kernel⟩
abbrev s__law_word_of : Stmt := topS 71
theorem sc__law_word_of : FnScope ["_law_thing", "_law_error", "e", "_law_some"] ["_law_thing"] (defScope s__law_word_of) := ⟨rfl, rfl, rfl, by decide +kernel, rfl, by decide +kernel, by decide +kernel⟩
abbrev s__law_refused : Stmt := topS 72
theorem sc__law_refused : FnScope ["_law_n", "_law_piece", "_law_good", "_law_some", "_law_due_here", "_law_long", "_law_far", "_law_odd"] ["_law_n", "_law_piece"] (defScope s__law_refused) := ⟨rfl, rfl, rfl, by decide +kernel, rfl, by decide +kernel, by decide +kernel⟩
abbrev s_law : Stmt := topS 73
theorem sc_law : FnScope ["_law_script", "_law_told", "_law_piece", "_law_due_here", "_law_turn", "_law_number", "_law_k", "_law_found", "_law_row_here"] ["_law_script"] (defScope s_law) := ⟨rfl, rfl, rfl, by decide +kernel, rfl, by decide +kernel, by decide +kernel⟩
structure Fx (K : PySem.W.Frag) (mg : Str → Option Value) where
  a__law_mixed : Addr
  fd__law_mixed : FuncData
  F__law_mixed : Fun K "_law_mixed" "_law_mixed" s__law_mixed a__law_mixed fd__law_mixed
  g__law_mixed : mg "_law_mixed" = some (.ref a__law_mixed)
  b__law_mixed : Binds K fd__law_mixed ["_law_cell", "_law_k"] []
  a__law_open : Addr
  fd__law_open : FuncData
  F__law_open : Fun K "_law_open" "_law_open" s__law_open a__law_open fd__law_open
  g__law_open : mg "_law_open" = some (.ref a__law_open)
  b__law_open : Binds K fd__law_open [] []
  a__law_row : Addr
  fd__law_row : FuncData
  F__law_row : Fun K "_law_row" "_law_row" s__law_row a__law_row fd__law_row
  g__law_row : mg "_law_row" = some (.ref a__law_row)
  b__law_row : Binds K fd__law_row ["_law_n"] []
  a__law_drawn : Addr
  fd__law_drawn : FuncData
  F__law_drawn : Fun K "_law_drawn" "_law_drawn" s__law_drawn a__law_drawn fd__law_drawn
  g__law_drawn : mg "_law_drawn" = some (.ref a__law_drawn)
  b__law_drawn : Binds K fd__law_drawn ["_law_script"] []
  a__law_border : Addr
  fd__law_border : FuncData
  F__law_border : Fun K "_law_border" "_law_border" s__law_border a__law_border fd__law_border
  g__law_border : mg "_law_border" = some (.ref a__law_border)
  b__law_border : Binds K fd__law_border ["_law_rows"] []
  a__law_folded : Addr
  fd__law_folded : FuncData
  F__law_folded : Fun K "_law_folded" "_law_folded" s__law_folded a__law_folded fd__law_folded
  g__law_folded : mg "_law_folded" = some (.ref a__law_folded)
  b__law_folded : Binds K fd__law_folded ["_law_name", "_law_value"] []
  a__law_due : Addr
  fd__law_due : FuncData
  F__law_due : Fun K "_law_due" "_law_due" s__law_due a__law_due fd__law_due
  g__law_due : mg "_law_due" = some (.ref a__law_due)
  b__law_due : Binds K fd__law_due ["_law_told"] []
  a_Header___init__ : Addr
  fd_Header___init__ : FuncData
  F_Header___init__ : Fun K "__init__" "Header.__init__" s_Header___init__ a_Header___init__ fd_Header___init__
  b_Header___init__ : Binds K fd_Header___init__ ["self", "name", "text"] []
  a_copied : Addr
  fd_copied : FuncData
  F_copied : Fun K "copied" "copied" s_copied a_copied fd_copied
  g_copied : mg "copied" = some (.ref a_copied)
  b_copied : Binds K fd_copied ["thing"] []
  a_Piece___init__ : Addr
  fd_Piece___init__ : FuncData
  F_Piece___init__ : FunD K "__init__" "Piece.__init__" (defArgs s_Piece___init__) (defBody s_Piece___init__) (defScope s_Piece___init__) [.non, .non] [] a_Piece___init__ fd_Piece___init__
  b_Piece___init__ : Binds K fd_Piece___init__ ["self", "headers", "row", "pieces"] []
  vb1_Piece___init__ : List Value
  b1_Piece___init__ : Vals [.non] vb1_Piece___init__ ∧ Binds K fd_Piece___init__ ["self", "headers", "row", "pieces"] vb1_Piece___init__
  vb2_Piece___init__ : List Value
  b2_Piece___init__ : Vals [.non, .non] vb2_Piece___init__ ∧ Binds K fd_Piece___init__ ["self", "headers", "row", "pieces"] vb2_Piece___init__
  a__law_made : Addr
  fd__law_made : FuncData
  F__law_made : Fun K "_law_made" "_law_made" s__law_made a__law_made fd__law_made
  g__law_made : mg "_law_made" = some (.ref a__law_made)
  b__law_made : Binds K fd__law_made ["_law_told"] []
  a__law_deep : Addr
  fd__law_deep : FuncData
  F__law_deep : Fun K "_law_deep" "_law_deep" s__law_deep a__law_deep fd__law_deep
  g__law_deep : mg "_law_deep" = some (.ref a__law_deep)
  b__law_deep : Binds K fd__law_deep ["_law_many", "_law_odd"] []
  a_is_whole : Addr
  fd_is_whole : FuncData
  F_is_whole : Fun K "is_whole" "is_whole" s_is_whole a_is_whole fd_is_whole
  g_is_whole : mg "is_whole" = some (.ref a_is_whole)
  b_is_whole : Binds K fd_is_whole ["thing"] []
  a_is_byte : Addr
  fd_is_byte : FuncData
  F_is_byte : Fun K "is_byte" "is_byte" s_is_byte a_is_byte fd_is_byte
  g_is_byte : mg "is_byte" = some (.ref a_is_byte)
  b_is_byte : Binds K fd_is_byte ["thing"] []
  a_are_bytes : Addr
  fd_are_bytes : FuncData
  F_are_bytes : Fun K "are_bytes" "are_bytes" s_are_bytes a_are_bytes fd_are_bytes
  g_are_bytes : mg "are_bytes" = some (.ref a_are_bytes)
  b_are_bytes : Binds K fd_are_bytes ["thing"] []
  a_is_piece : Addr
  fd_is_piece : FuncData
  F_is_piece : Fun K "is_piece" "is_piece" s_is_piece a_is_piece fd_is_piece
  g_is_piece : mg "is_piece" = some (.ref a_is_piece)
  b_is_piece : Binds K fd_is_piece ["thing", "deep"] []
  a_need_piece : Addr
  fd_need_piece : FuncData
  F_need_piece : Fun K "need_piece" "need_piece" s_need_piece a_need_piece fd_need_piece
  g_need_piece : mg "need_piece" = some (.ref a_need_piece)
  b_need_piece : Binds K fd_need_piece ["thing"] []
  a_Header_value : Addr
  fd_Header_value : FuncData
  F_Header_value : Fun K "value" "Header.value" s_Header_value a_Header_value fd_Header_value
  b_Header_value : Binds K fd_Header_value ["self"] []
  a_border_of : Addr
  fd_border_of : FuncData
  F_border_of : Fun K "border_of" "border_of" s_border_of a_border_of fd_border_of
  g_border_of : mg "border_of" = some (.ref a_border_of)
  b_border_of : Binds K fd_border_of ["rows"] []
  a_sign_by : Addr
  fd_sign_by : FuncData
  F_sign_by : Fun K "sign_by" "sign_by" s_sign_by a_sign_by fd_sign_by
  g_sign_by : mg "sign_by" = some (.ref a_sign_by)
  b_sign_by : Binds K fd_sign_by ["byte"] []
  a_plain_rows : Addr
  fd_plain_rows : FuncData
  F_plain_rows : Fun K "plain_rows" "plain_rows" s_plain_rows a_plain_rows fd_plain_rows
  g_plain_rows : mg "plain_rows" = some (.ref a_plain_rows)
  b_plain_rows : Binds K fd_plain_rows ["row"] []
  a_signs_in : Addr
  fd_signs_in : FuncData
  F_signs_in : Fun K "signs_in" "signs_in" s_signs_in a_signs_in fd_signs_in
  g_signs_in : mg "signs_in" = some (.ref a_signs_in)
  b_signs_in : Binds K fd_signs_in ["rows"] []
  a_cut_rows : Addr
  fd_cut_rows : FuncData
  F_cut_rows : Fun K "cut_rows" "cut_rows" s_cut_rows a_cut_rows fd_cut_rows
  g_cut_rows : mg "cut_rows" = some (.ref a_cut_rows)
  b_cut_rows : Binds K fd_cut_rows ["units"] []
  a_need_bytes : Addr
  fd_need_bytes : FuncData
  F_need_bytes : Fun K "need_bytes" "need_bytes" s_need_bytes a_need_bytes fd_need_bytes
  g_need_bytes : mg "need_bytes" = some (.ref a_need_bytes)
  b_need_bytes : Binds K fd_need_bytes ["row"] []
  a_parted : Addr
  fd_parted : FuncData
  F_parted : Fun K "parted" "parted" s_parted a_parted fd_parted
  g_parted : mg "parted" = some (.ref a_parted)
  b_parted : Binds K fd_parted ["row"] []
  a_unit_of : Addr
  fd_unit_of : FuncData
  F_unit_of : Fun K "unit_of" "unit_of" s_unit_of a_unit_of fd_unit_of
  g_unit_of : mg "unit_of" = some (.ref a_unit_of)
  b_unit_of : Binds K fd_unit_of ["byte", "is_end"] []
  a_sixteens_of : Addr
  fd_sixteens_of : FuncData
  F_sixteens_of : Fun K "sixteens_of" "sixteens_of" s_sixteens_of a_sixteens_of fd_sixteens_of
  g_sixteens_of : mg "sixteens_of" = some (.ref a_sixteens_of)
  b_sixteens_of : Binds K fd_sixteens_of ["row"] []
  a_four_of : Addr
  fd_four_of : FuncData
  F_four_of : Fun K "four_of" "four_of" s_four_of a_four_of fd_four_of
  g_four_of : mg "four_of" = some (.ref a_four_of)
  b_four_of : Binds K fd_four_of ["three"] []
  a_sixty_of : Addr
  fd_sixty_of : FuncData
  F_sixty_of : Fun K "sixty_of" "sixty_of" s_sixty_of a_sixty_of fd_sixty_of
  g_sixty_of : mg "sixty_of" = some (.ref a_sixty_of)
  b_sixty_of : Binds K fd_sixty_of ["row"] []
  a_bytes_written : Addr
  fd_bytes_written : FuncData
  F_bytes_written : Fun K "bytes_written" "bytes_written" s_bytes_written a_bytes_written fd_bytes_written
  g_bytes_written : mg "bytes_written" = some (.ref a_bytes_written)
  b_bytes_written : Binds K fd_bytes_written ["row"] []
  a_are_among : Addr
  fd_are_among : FuncData
  F_are_among : Fun K "are_among" "are_among" s_are_among a_are_among fd_are_among
  g_are_among : mg "are_among" = some (.ref a_are_among)
  b_are_among : Binds K fd_are_among ["text", "signs"] []
  a_is_header_name : Addr
  fd_is_header_name : FuncData
  F_is_header_name : Fun K "is_header_name" "is_header_name" s_is_header_name a_is_header_name fd_is_header_name
  g_is_header_name : mg "is_header_name" = some (.ref a_is_header_name)
  b_is_header_name : Binds K fd_is_header_name ["thing"] []
  a_is_value : Addr
  fd_is_value : FuncData
  F_is_value : Fun K "is_value" "is_value" s_is_value a_is_value fd_is_value
  g_is_value : mg "is_value" = some (.ref a_is_value)
  b_is_value : Binds K fd_is_value ["thing"] []
  a_words_in : Addr
  fd_words_in : FuncData
  F_words_in : Fun K "words_in" "words_in" s_words_in a_words_in fd_words_in
  g_words_in : mg "words_in" = some (.ref a_words_in)
  b_words_in : Binds K fd_words_in ["text"] []
  a_folded : Addr
  fd_folded : FuncData
  F_folded : Fun K "folded" "folded" s_folded a_folded fd_folded
  g_folded : mg "folded" = some (.ref a_folded)
  b_folded : Binds K fd_folded ["name", "value"] []
  a_rows_written : Addr
  fd_rows_written : FuncData
  F_rows_written : Fun K "rows_written" "rows_written" s_rows_written a_rows_written fd_rows_written
  g_rows_written : mg "rows_written" = some (.ref a_rows_written)
  b_rows_written : Binds K fd_rows_written ["piece"] []
  a_body_written : Addr
  fd_body_written : FuncData
  F_body_written : Fun K "body_written" "body_written" s_body_written a_body_written fd_body_written
  g_body_written : mg "body_written" = some (.ref a_body_written)
  b_body_written : Binds K fd_body_written ["piece"] []
  a_piece_rows : Addr
  fd_piece_rows : FuncData
  F_piece_rows : Fun K "piece_rows" "piece_rows" s_piece_rows a_piece_rows fd_piece_rows
  g_piece_rows : mg "piece_rows" = some (.ref a_piece_rows)
  b_piece_rows : Binds K fd_piece_rows ["piece"] []
  a__law_word_of : Addr
  fd__law_word_of : FuncData
  F__law_word_of : Fun K "_law_word_of" "_law_word_of" s__law_word_of a__law_word_of fd__law_word_of
  g__law_word_of : mg "_law_word_of" = some (.ref a__law_word_of)
  b__law_word_of : Binds K fd__law_word_of ["_law_thing"] []
  a__law_refused : Addr
  fd__law_refused : FuncData
  F__law_refused : Fun K "_law_refused" "_law_refused" s__law_refused a__law_refused fd__law_refused
  g__law_refused : mg "_law_refused" = some (.ref a__law_refused)
  b__law_refused : Binds K fd__law_refused ["_law_n", "_law_piece"] []
  a_law : Addr
  fd_law : FuncData
  F_law : Fun K "law" "law" s_law a_law fd_law
  g_law : mg "law" = some (.ref a_law)
  b_law : Binds K fd_law ["_law_script"] []
  m_Header_value : mthB K "Header" "value" a_Header_value = true
  mk_Header : mkB K "Header" a_Header___init__ = true
  mk_Piece : mkB K "Piece" a_Piece___init__ = true
  ii_Header : iiB K "Header" ci_Header = true
  ii_Piece : iiB K "Piece" ci_Piece = true
  it_list : itB K .list ct_list = true
  z_ValueError : mg "ValueError" = none
  z_all : mg "all" = none
  z_any : mg "any" = none
  z_bool : mg "bool" = none
  z_enumerate : mg "enumerate" = none
  z_int : mg "int" = none
  z_isinstance : mg "isinstance" = none
  z_len : mg "len" = none
  z_list : mg "list" = none
  z_ord : mg "ord" = none
  z_range : mg "range" = none
  z_str : mg "str" = none
  z_sum : mg "sum" = none
  gx_BadBody : mg "BadBody" = some (.ref (clK K "BadBody"))
  gx_BadBytes : mg "BadBytes" = some (.ref (clK K "BadBytes"))
  gx_BadHeader : mg "BadHeader" = some (.ref (clK K "BadHeader"))
  gx_BadName : mg "BadName" = some (.ref (clK K "BadName"))
  gx_BadPiece : mg "BadPiece" = some (.ref (clK K "BadPiece"))
  gx_BadRow : mg "BadRow" = some (.ref (clK K "BadRow"))
  gx_BadValue : mg "BadValue" = some (.ref (clK K "BadValue"))
  gx_Header : mg "Header" = some (.ref (clK K "Header"))
  gx_HouseError : mg "HouseError" = some (.ref (clK K "HouseError"))
  gx_Piece : mg "Piece" = some (.ref (clK K "Piece"))
  gx_TooLong : mg "TooLong" = some (.ref (clK K "TooLong"))
  cl_Header : clsB K "Header" = true
  cl_Piece : clsB K "Piece" = true
  na_Header_known : naB K "Header" "known" = true
  na_Header_name : naB K "Header" "name" = true
  na_Piece_headers : naB K "Piece" "headers" = true
  na_Piece_pieces : naB K "Piece" "pieces" = true
  na_Piece_row : naB K "Piece" "row" = true
  xk_BadBytes : xK K "BadBytes" = true
  xk_BadName : xK K "BadName" = true
  xk_BadPiece : xK K "BadPiece" = true
  xk_BadValue : xK K "BadValue" = true
  xk_TooLong : xK K "TooLong" = true
  ki_BadBody : kiB K "BadBody" cs_BadBody = true
  ke_BadBody : (cs_BadBody.all fun x => eK K x.1) = true
  ki_BadBytes : kiB K "BadBytes" cs_BadBytes = true
  ke_BadBytes : (cs_BadBytes.all fun x => eK K x.1) = true
  ki_BadHeader : kiB K "BadHeader" cs_BadHeader = true
  ke_BadHeader : (cs_BadHeader.all fun x => eK K x.1) = true
  ki_BadName : kiB K "BadName" cs_BadName = true
  ke_BadName : (cs_BadName.all fun x => eK K x.1) = true
  ki_BadPiece : kiB K "BadPiece" cs_BadPiece = true
  ke_BadPiece : (cs_BadPiece.all fun x => eK K x.1) = true
  ki_BadRow : kiB K "BadRow" cs_BadRow = true
  ke_BadRow : (cs_BadRow.all fun x => eK K x.1) = true
  ki_BadValue : kiB K "BadValue" cs_BadValue = true
  ke_BadValue : (cs_BadValue.all fun x => eK K x.1) = true
  ki_TooLong : kiB K "TooLong" cs_TooLong = true
  ke_TooLong : (cs_TooLong.all fun x => eK K x.1) = true
  ki_ValueError : kiB K "ValueError" cs_ValueError = true
  ke_ValueError : (cs_ValueError.all fun x => eK K x.1) = true
  em_HouseError : ∀ d b, supL es_HouseError d = some b → PySem.W.exmOne K (.ref (clK K d)) (.ref (clK K "HouseError")) = some b
  c_END : ∃ t, mg "END" = some (.int 10 t)
  c_FIRST_SIGN : ∃ t, mg "FIRST_SIGN" = some (.int 32 t)
  c_LAST_SIGN : ∃ t, mg "LAST_SIGN" = some (.int 126 t)
  c_LEFT_OUT : ∃ t, mg "LEFT_OUT" = some (.int 37 t)
  c_MOST_DEEP : ∃ t, mg "MOST_DEEP" = some (.int 4 t)
  c_MOST_LETTERS : ∃ t, mg "MOST_LETTERS" = some (.int 8 t)
  c_MOST_PIECES : ∃ t, mg "MOST_PIECES" = some (.int 8 t)
  c_MOST_ROW : ∃ t, mg "MOST_ROW" = some (.int 60 t)
  c_MOST_WORDS : ∃ t, mg "MOST_WORDS" = some (.int 3 t)
  c_ROW_END : ∃ t, mg "ROW_END" = some (.int 10 t)
  c_SIGNS : ∃ t, mg "SIGNS" = some (.str (tS t_01234567_b361) t)
  c_SIXTEEN : ∃ t, mg "SIXTEEN" = some (.str (tS t_01234567_37b5) t)
  c_SIXTY : ∃ t, mg "SIXTY" = some (.str (tS t_ABCDEFGH_2ddd) t)
  c_SMALL : ∃ t, mg "SMALL" = some (.str (tS t_abcdefgh_50bd) t)
section
variable {P : Program} {w : World} {K : PySem.W.Frag} {mg : Str → Option Value} {base : Heap}
theorem ok__law_mixed (T : Fx K mg) : FnOk P w K mg base (L2.CX P w) 1 T.a__law_mixed T.fd__law_mixed ["_law_cell", "_law_k"] (spD (clK K) K 2 d__law_mixed) :=
  fn_ok (k := 0) T.F__law_mixed sc__law_mixed fun cdv A outer s H E hr =>
    (dss_cons (ds_set (i := 2) sc__law_mixed.nd rfl (by first | exact Or.inl rfl | exact Or.inr rfl) (de_bin op_addD o_add (DE.o (de_bin op_addD o_add (DE.o (de_bin op_mod o_mod (do_v 0 (pv 0)) (DE.o de_int))) (DE.o (de_bin op_mulD o_mul (DE.o de_int) (do_v 1 (pv 1)))))) (DE.o de_int)))
      (dss_one (ds_ret (de_bin op_fdiv o_div (DE.o (de_bin op_mod o_mod (DE.o (de_bin op_mulD o_mul (DE.o (de_bin op_mod o_mod (DE.o (de_bin op_mulD o_mul (do_v 2 (pv 2)) (do_v 2 (pv 2)))) (DE.o de_int))) (do_v 2 (pv 2)))) (DE.o de_int))) (DE.o de_int)))))
theorem ok__law_open (T : Fx K mg) : FnOk P w K mg base (L2.CX P w) 1 T.a__law_open T.fd__law_open [] (spD (clK K) K 0 d__law_open) :=
  fn_ok (k := 0) T.F__law_open sc__law_open fun cdv A outer s H E hr =>
    (dss_one (ds_ret (de_disp (dps_cons t_headers e_t_headers (de_lst dae_nil) (dps_cons t_rows e_t_rows (de_lst dae_nil) (dps_cons t_pieces e_t_pieces (de_lst dae_nil) dps_nil))) (by decide +kernel) (kOks_of (by decide +kernel)) rfl rfl rfl (fun z => by cases z) (Nat.le_of_ble_eq_true rfl) (Nat.le_of_ble_eq_true rfl))))
theorem ok__law_row (T : Fx K mg) : FnOk P w K mg base (L2.CX P w) 1 T.a__law_row T.fd__law_row ["_law_n"] (spD (clK K) K 1 d__law_row) :=
  fn_ok (k := 0) T.F__law_row sc__law_row fun cdv A outer s H E hr =>
    (dss_cons (ds_set (i := 1) sc__law_row.nd rfl (by first | exact Or.inl rfl | exact Or.inr rfl) (de_ix (fun _ _ => rfl) (DE.o (de_frz (de_lst (dae_cons (de_bin op_mod o_mod (DE.o (de_bin op_fdiv o_div (do_v 0 (pv 0)) (DE.o de_int))) (DE.o de_int)) (dae_cons (de_bin op_mod o_mod (DE.o (de_bin op_fdiv o_div (do_v 0 (pv 0)) (DE.o de_int))) (DE.o de_int)) (dae_cons (de_bin op_addD o_add (DE.o de_int) (DE.o (de_bin op_mod o_mod (DE.o (de_bin op_fdiv o_div (do_v 0 (pv 0)) (DE.o de_int))) (DE.o de_int)))) dae_nil)))))) (DE.o (de_bin op_mod o_mod (DE.o (de_bin op_fdiv o_div (do_v 0 (pv 0)) (DE.o de_int))) (DE.o de_int)))))
      (dss_cons (ds_set (i := 2) sc__law_row.nd rfl (by first | exact Or.inl rfl | exact Or.inr rfl) (de_bin op_addD o_add (DE.o (de_ix (fun _ _ => rfl) (DE.o (de_frz (de_lst (dae_cons (de_str t_b_563a e_t_b_563a c_t_b_563a) (dae_cons (de_str t_b_563a e_t_b_563a c_t_b_563a) (dae_cons (de_str t_b_4864 e_t_b_4864 c_t_b_4864) (dae_cons (de_str t_B_76f2 e_t_B_76f2 c_t_B_76f2) (dae_cons (de_str t_b e_t_b c_t_b) (dae_cons (de_str t__1465 e_t__1465 c_t__1465) dae_nil))))))))) (DE.o (de_bin op_mod o_mod (do_v 0 (pv 0)) (DE.o de_int))))) (DE.o (de_t1 call_str_int o_strI rfl T.z_str (by decide +kernel) (do_v 1 (pv 1))))))
      (dss_one (ds_ret (de_bin op_addD o_add (do_v 2 (pv 2)) (DE.o (de_ix (fun _ _ => rfl) (DE.o (de_frz (de_lst (dae_cons (de_str t__0 e_t__0 c_t__0) (dae_cons (de_str t__1465 e_t__1465 c_t__1465) (dae_cons (de_str t_x e_t_x c_t_x) (dae_cons (de_str t_b_3629 e_t_b_3629 c_t_b_3629) (dae_cons (de_str t_0 e_t_0 c_t_0) dae_nil)))))))) (DE.o (de_bin op_mod o_mod (DE.o (de_bin op_fdiv o_div (do_v 0 (pv 0)) (DE.o de_int))) (DE.o de_int))))))))))
theorem ok__law_drawn (T : Fx K mg) : FnOk P w K mg base (L2.CX P w) 2 T.a__law_drawn T.fd__law_drawn ["_law_script"] (spD (clK K) K 1 d__law_drawn) :=
  fn_ok (k := 1) T.F__law_drawn sc__law_drawn fun cdv A outer s H E hr =>
    (dss_cons (ds_set (i := 1) sc__law_drawn.nd rfl (by first | exact Or.inl rfl | exact Or.inr rfl) (de_lst (dae_cons (de_call0 (ok__law_open T) (hr.mono (by decide)) rfl T.g__law_open T.F__law_open.kp T.b__law_open) dae_nil)))
      (dss_stk (si := 1) (ti := 5) (kss_cons (ks_for (cl := clK K) (W := fun cls d _ H => E cls d H) (passes_of rfl) rfl (di_enumS rfl T.z_enumerate (DE.o (de_frz (de_slHi (do_v 0 (pv 0)) (DE.o de_int))))) (pg_tup rfl (pgs_cons (pg_name (i := 2) sc__law_drawn.nd rfl (by first | exact Or.inl rfl | exact Or.inr rfl)) (pgs_cons (pg_name (i := 3) sc__law_drawn.nd rfl (by first | exact Or.inl rfl | exact Or.inr rfl)) pgs_nil))) (fun _ _ => (sg_tup [2, 3])) (kss_cons (ks_lift (cl := clK K) (W := fun cls d _ H => E cls d H) fun _ _ => (ds_set (i := 4) sc__law_drawn.nd rfl (by first | exact Or.inl rfl | exact Or.inr rfl) (de_call (ok__law_mixed T) (hr.mono (by decide)) rfl T.g__law_mixed T.F__law_mixed.kp T.b__law_mixed (takes_of rfl rfl rfl rfl) (da_cons (do_v 3 (pv 3)) (da_cons (do_v 2 (pv 2)) da_nil)))))
      (kss_cons (ks_top (cl := clK K) (W := fun cls d _ H => E cls d H) (ti := 5) sc__law_drawn.nd rfl (by first | exact Or.inl rfl | exact Or.inr rfl) (dp_ix (fun _ _ => rfl) (dp_v (pv 1)) (DE.o (de_un un_neg o_neg (DE.o de_int)))))
      (kss_cons (ks_lift (cl := clK K) (W := fun cls d _ H => E cls d H) fun _ _ => (ds_set (i := 6) sc__law_drawn.nd rfl (by first | exact Or.inl rfl | exact Or.inr rfl) (de_bin op_fdiv o_div (do_v 4 (pv 4)) (DE.o de_int))))
      (kss_one (ks_if (cl := clK K) (W := fun cls d _ H => E cls d H) (DW.t (dw_and (dt_cmp op_lt o_lt (nomark _) (DE.o (de_bin op_mod o_mod (do_v 4 (pv 4)) (DE.o de_int))) (DE.o de_int)) (dw_and (dt_cmp op_lt o_lt (nomark _) (DE.o (de_b1 call_len o_len rfl T.z_len (by decide +kernel) (do_v 1 (pv 1)))) (DE.o de_int)) (dw_and (dt_cmp (op_eqD hr.units) o_eq (nomark _) (do_dg (hu1 hr) (fun _ _ => rfl) (do_v 5 (pv 5)) (DE.o (de_str t_rows e_t_rows c_t_rows))) (DE.o (de_lst dae_nil))) (dw_and1 (dt_cmp op_lt o_lt (nomark _) (DE.o (de_b1 call_len o_len rfl T.z_len (by decide +kernel) (do_dg (hu1 hr) (fun _ _ => rfl) (do_v 5 (pv 5)) (DE.o (de_str t_pieces e_t_pieces c_t_pieces))))) (DE.o de_int))))))) (kss_cons (ks_app (cl := clK K) (W := fun cls d _ H => E cls d H) (dp_dk (hu1 hr) (fun _ _ => rfl) (dp_v (pv 5)) (DE.o (de_str t_pieces e_t_pieces c_t_pieces))) (de_call0 (ok__law_open T) (hr.mono (by decide)) rfl T.g__law_open T.F__law_open.kp T.b__law_open))
      (kss_one (ks_push (cl := clK K) (W := fun cls d _ H => E cls d H) (pv 1) (dp_ix (fun _ _ => rfl) (dp_dk (hu1 hr) (fun _ _ => rfl) (dp_v (pv 5)) (DE.o (de_str t_pieces e_t_pieces c_t_pieces))) (DE.o (de_un un_neg o_neg (DE.o de_int))))))) (kss_one (ks_if (cl := clK K) (W := fun cls d _ H => E cls d H) (DW.t (dw_and (dt_cmp (op_eqD hr.units) o_eq (nomark _) (DE.o (de_bin op_mod o_mod (do_v 4 (pv 4)) (DE.o de_int))) (DE.o de_int)) (dw_and1 (dt_cmp op_gt o_gt (nomark _) (DE.o (de_b1 call_len o_len rfl T.z_len (by decide +kernel) (do_v 1 (pv 1)))) (DE.o de_int))))) (kss_one (ks_pop (pv 1))) (kss_one (ks_if (cl := clK K) (W := fun cls d _ H => E cls d H) (dt_cmp (op_eqD hr.units) o_eq (nomark _) (DE.o (de_bin op_mod o_mod (do_v 4 (pv 4)) (DE.o de_int))) (DE.o de_int)) (kss_one (ks_app (cl := clK K) (W := fun cls d _ H => E cls d H) (dp_dk (hu1 hr) (fun _ _ => rfl) (dp_v (pv 5)) (DE.o (de_str t_headers e_t_headers c_t_headers))) (de_tup (dae_cons (de_bin op_addD o_add (DE.o (de_str t_b e_t_b c_t_b)) (do_ix (fun _ _ => rfl) (DE.o (de_str t_bcd e_t_bcd c_t_bcd)) (DE.o (de_bin op_mod o_mod (do_v 6 (pv 6)) (DE.o de_int))))) (dae_cons (de_bin op_addD o_add (DE.o (de_bin op_addD o_add (DE.o (de_str t_b_563a e_t_b_563a c_t_b_563a)) (DE.o (de_t1 call_str_int o_strI rfl T.z_str (by decide +kernel) (DE.o (de_bin op_mod o_mod (DE.o (de_bin op_fdiv o_div (do_v 6 (pv 6)) (DE.o de_int))) (DE.o de_int))))))) (DE.o (de_bin op_mulD o_mul (DE.o (de_str t_x_cf53 e_t_x_cf53 c_t_x_cf53)) (DE.o (de_bin op_mod o_mod (DE.o (de_bin op_fdiv o_div (do_v 6 (pv 6)) (DE.o de_int))) (DE.o de_int)))))) dae_nil))))) (kss_one (ks_if (cl := clK K) (W := fun cls d _ H => E cls d H) (dt_cmp (op_eqE (hu1 hr)) o_eqE (nomark _) (do_dg (hu1 hr) (fun _ _ => rfl) (do_v 5 (pv 5)) (DE.o (de_str t_pieces e_t_pieces c_t_pieces))) (DE.o (de_lst dae_nil))) (kss_one (ks_app (cl := clK K) (W := fun cls d _ H => E cls d H) (dp_dk (hu1 hr) (fun _ _ => rfl) (dp_v (pv 5)) (DE.o (de_str t_rows e_t_rows c_t_rows))) (de_call (ok__law_row T) (hr.mono (by decide)) rfl T.g__law_row T.F__law_row.kp T.b__law_row (takes_of rfl rfl rfl rfl) (da_cons (do_v 6 (pv 6)) da_nil)))) (kss_one (ks_if (cl := clK K) (W := fun cls d _ H => E cls d H) (dt_cmp op_gt o_gt (nomark _) (DE.o (de_b1 call_len o_len rfl T.z_len (by decide +kernel) (do_v 1 (pv 1)))) (DE.o de_int)) (kss_one (ks_pop (pv 1))) kss_nil))))))))))))))
      (kss_one (ks_ret (cl := clK K) (W := fun cls d _ H => E cls d H) (dp_ix (fun _ _ => rfl) (dp_v (pv 1)) (DE.o de_int)))))))
theorem ok__law_border (T : Fx K mg) : FnOk P w K mg base (L2.CX P w) 1 T.a__law_border T.fd__law_border ["_law_rows"] (spD (clK K) K 1 d__law_border) :=
  fn_ok (k := 0) T.F__law_border sc__law_border fun cdv A outer s H E hr =>
    (dss_cons (ds_set (i := 1) sc__law_border.nd rfl (by first | exact Or.inl rfl | exact Or.inr rfl) de_int)
      (dss_cons (ds_while 1000000 (passes_of rfl) (dt_cmp (op_neD hr.units) o_ne (nomark _) (DE.o (de_comp (own := [("_law_row_here", 2)]) (g := gName 2) rfl rfl sc__law_border.nd (di_list (do_v 0 (pv 0))) (blkOk_by (own := [("_law_row_here", 2)]) (N := ["_law_rows", "_law_number", "_law_row_here"]) (sc := defScope s__law_border) (by decide +kernel)) (cg_name 2) (fun _ _ _ _ _ => (pg_name (i := 2) sc__law_border.nd rfl (by first | exact Or.inl rfl | exact Or.inr rfl))) (fun _ _ _ _ _ => (dts_one (dt_cmp (op_eqD hr.units) o_eq (nomark _) (DE.o (de_slHi (do_v 2 (pv 2)) (DE.o (de_b1 call_len o_len rfl T.z_len (by decide +kernel) (DE.o (de_bin op_addD o_add (DE.o (de_str t_b_563a e_t_b_563a c_t_b_563a)) (DE.o (de_t1 call_str_int o_strI rfl T.z_str (by decide +kernel) (do_v 1 (pv 1)))))))))) (DE.o (de_bin op_addD o_add (DE.o (de_str t_b_563a e_t_b_563a c_t_b_563a)) (DE.o (de_t1 call_str_int o_strI rfl T.z_str (by decide +kernel) (do_v 1 (pv 1))))))))) (fun _ _ _ _ _ => (de_v 2 (pv 2))))) (DE.o (de_lst dae_nil))) (dss_one (ds_set (i := 1) sc__law_border.nd rfl (by first | exact Or.inl rfl | exact Or.inr rfl) (de_bin op_addD o_add (do_v 1 (pv 1)) (DE.o de_int)))))
      (dss_one (ds_ret (de_bin op_addD o_add (DE.o (de_str t_b e_t_b c_t_b)) (DE.o (de_t1 call_str_int o_strI rfl T.z_str (by decide +kernel) (do_v 1 (pv 1)))))))))
theorem ok__law_folded (T : Fx K mg) : FnOk P w K mg base (L2.CX P w) 1 T.a__law_folded T.fd__law_folded ["_law_name", "_law_value"] (spD (clK K) K 2 d__law_folded) :=
  fn_ok (k := 0) T.F__law_folded sc__law_folded fun cdv A outer s H E hr =>
    (dss_cons (ds_set (i := 2) sc__law_folded.nd rfl (by first | exact Or.inl rfl | exact Or.inr rfl) (de_bin op_addD o_add (DE.o (de_bin op_addD o_add (DE.o (de_m0 PySem.F.slot_str_upper PySem.F.type_str_upper mt_upper o_upper (DE.o (de_slHi (do_v 0 (pv 0)) (DE.o de_int))))) (DE.o (de_slLo (do_v 0 (pv 0)) (DE.o de_int))))) (DE.o (de_str t__363f e_t__363f c_t__363f))))
      (dss_cons (ds_set (i := 3) sc__law_folded.nd rfl (by first | exact Or.inl rfl | exact Or.inr rfl) (de_lst dae_nil))
      (dss_cons (ds_for (passes_of rfl) rfl (di_listS (DE.o (de_frz (de_m1 PySem.F.slot_str_split PySem.F.type_str_split mt_split o_split (do_v 1 (pv 1)) (DE.o (de_str t__cf45 e_t__cf45 c_t__cf45)))))) (pg_name (i := 4) sc__law_folded.nd rfl (by first | exact Or.inl rfl | exact Or.inr rfl)) (sg_name 4) (dss_cons (ds_if (dt_cmp op_gt o_gt (nomark _) (DE.o (de_bin op_addD o_add (DE.o (de_bin op_addD o_add (DE.o (de_b1 call_len o_len rfl T.z_len (by decide +kernel) (do_v 2 (pv 2)))) (DE.o de_int))) (DE.o (de_b1 call_len o_len rfl T.z_len (by decide +kernel) (do_v 4 (pv 4)))))) (DE.o de_int)) (dss_cons (ds_app 3 (pv 3) (de_v 2 (pv 2)))
      (dss_one (ds_set (i := 2) sc__law_folded.nd rfl (by first | exact Or.inl rfl | exact Or.inr rfl) (de_str t__0 e_t__0 c_t__0)))) dss_nil)
      (dss_one (ds_set (i := 2) sc__law_folded.nd rfl (by first | exact Or.inl rfl | exact Or.inr rfl) (de_bin op_addD o_add (DE.o (de_bin op_addD o_add (do_v 2 (pv 2)) (DE.o (de_str t__cf45 e_t__cf45 c_t__cf45)))) (do_v 4 (pv 4)))))))
      (dss_one (ds_ret (de_bin op_addD o_add (do_v 3 (pv 3)) (DE.o (de_lst (dae_cons (de_v 2 (pv 2)) dae_nil)))))))))
theorem okg__law_due (T : Fx K mg) : ∀ n : Nat, (FnOk P w K mg base (L2.CX P w) (2 + n) T.a__law_due T.fd__law_due ["_law_told"] (spD (clK K) K 1 (d__law_due n)))
  | 0 => fn_ok (k := 1) T.F__law_due sc__law_due fun cdv A outer s H E hr => dss_no
  | n + 1 => by
    have okr__law_due := okg__law_due T n
    exact (fn_ok (k := 2 + n) T.F__law_due sc__law_due fun cdv A outer s H E hr =>
    (dss_cons (ds_set (i := 1) sc__law_due.nd rfl (by first | exact Or.inl rfl | exact Or.inr rfl) (de_lst dae_nil))
      (dss_cons (ds_for (passes_of rfl) rfl (di_listS (DE.o (de_frz (de_dg (hu1 hr) (fun _ _ => rfl) (do_v 0 (pv 0)) (DE.o (de_str t_headers e_t_headers c_t_headers)))))) (pg_tup rfl (pgs_cons (pg_name (i := 6) sc__law_due.nd rfl (by first | exact Or.inl rfl | exact Or.inr rfl)) (pgs_cons (pg_name (i := 7) sc__law_due.nd rfl (by first | exact Or.inl rfl | exact Or.inr rfl)) pgs_nil))) (sg_tup [6, 7]) (dss_one (ds_set (i := 1) sc__law_due.nd rfl (by first | exact Or.inl rfl | exact Or.inr rfl) (de_bin op_addD o_add (do_v 1 (pv 1)) (DE.o (de_call (ok__law_folded T) (hr.mono (by omega)) rfl T.g__law_folded T.F__law_folded.kp T.b__law_folded (takes_of rfl rfl rfl rfl) (da_cons (do_v 6 (pv 6)) (da_cons (do_v 7 (pv 7)) da_nil))))))))
      (dss_cons (ds_if (dt_cmp (op_eqE (hu1 hr)) o_eqE (nomark _) (do_dg (hu1 hr) (fun _ _ => rfl) (do_v 0 (pv 0)) (DE.o (de_str t_pieces e_t_pieces c_t_pieces))) (DE.o (de_lst dae_nil))) (dss_one (ds_ret (de_bin op_addD o_add (DE.o (de_bin op_addD o_add (do_v 1 (pv 1)) (DE.o (de_lst (dae_cons (de_str t_Bodyplai_7ed4 e_t_Bodyplai_7ed4 c_t_Bodyplai_7ed4) (dae_cons (de_str t__0 e_t__0 c_t__0) dae_nil)))))) (DE.o (de_m1 PySem.F.slot_str_split PySem.F.type_str_split mt_split o_split (DE.o (de_m1 PySem.F.slot_str_join PySem.F.type_str_join mt_join o_join (DE.o (de_str t__693 e_t__693 c_t__693)) (do_dg (hu1 hr) (fun _ _ => rfl) (do_v 0 (pv 0)) (DE.o (de_str t_rows e_t_rows c_t_rows))))) (DE.o (de_str t__693 e_t__693 c_t__693))))))) dss_nil)
      (dss_cons (ds_setLc (i := 2) (own := [("_law_one", 8)]) (g := gName 8) rfl rfl sc__law_due.nd rfl rfl (sw_true rfl rfl rfl (by decide +kernel)) (di_list (do_dg (hu1 hr) (fun _ _ => rfl) (do_v 0 (pv 0)) (DE.o (de_str t_pieces e_t_pieces c_t_pieces)))) (blkOk_by (own := [("_law_one", 8)]) (N := ["_law_told", "_law_rows", "_law_groups", "_law_whole", "_law_group", "_law_border_here", "_law_name", "_law_value", "_law_one"]) (sc := defScope s__law_due) (by decide +kernel)) (cg_name 8) (fun _ _ _ _ _ => (pg_name (i := 8) sc__law_due.nd rfl (by first | exact Or.inl rfl | exact Or.inr rfl))) (fun _ _ _ _ _ => dts_nil) (fun _ _ _ _ _ => (de_call okr__law_due (hr.mono (by omega)) rfl T.g__law_due T.F__law_due.kp T.b__law_due takes0 (da_cons (do_v 8 (pv 8)) da_nil))))
      (dss_cons (ds_set (i := 3) sc__law_due.nd rfl (by first | exact Or.inl rfl | exact Or.inr rfl) (de_lst dae_nil))
      (dss_cons (ds_frz 2 (ds_for (passes_of rfl) rfl (di_listS (do_v 2 (pv 2))) (pg_name (i := 4) sc__law_due.nd rfl (by first | exact Or.inl rfl | exact Or.inr rfl)) (sg_name 4) (dss_one (ds_set (i := 3) sc__law_due.nd rfl (by first | exact Or.inl rfl | exact Or.inr rfl) (de_bin op_addD o_add (do_v 3 (pv 3)) (do_v 4 (pv 4)))))))
      (dss_cons (ds_set (i := 5) sc__law_due.nd rfl (by first | exact Or.inl rfl | exact Or.inr rfl) (de_call (ok__law_border T) (hr.mono (by omega)) rfl T.g__law_border T.F__law_border.kp T.b__law_border (takes_of rfl rfl rfl rfl) (da_cons (do_v 3 (pv 3)) da_nil)))
      (dss_cons (ds_set (i := 1) sc__law_due.nd rfl (by first | exact Or.inl rfl | exact Or.inr rfl) (de_bin op_addD o_add (do_v 1 (pv 1)) (DE.o (de_lst (dae_cons (de_bin op_addD o_add (DE.o (de_str t_Bodypiec_dfb6 e_t_Bodypiec_dfb6 c_t_Bodypiec_dfb6)) (do_v 5 (pv 5))) (dae_cons (de_str t__0 e_t__0 c_t__0) dae_nil))))))
      (dss_cons (ds_frz 2 (ds_for (passes_of rfl) rfl (di_listS (do_v 2 (pv 2))) (pg_name (i := 4) sc__law_due.nd rfl (by first | exact Or.inl rfl | exact Or.inr rfl)) (sg_name 4) (dss_one (ds_set (i := 1) sc__law_due.nd rfl (by first | exact Or.inl rfl | exact Or.inr rfl) (de_bin op_addD o_add (DE.o (de_bin op_addD o_add (do_v 1 (pv 1)) (DE.o (de_lst (dae_cons (de_bin op_addD o_add (DE.o (de_str t__1465 e_t__1465 c_t__1465)) (do_v 5 (pv 5))) dae_nil))))) (do_v 4 (pv 4)))))))
      (dss_one (ds_ret (de_bin op_addD o_add (do_v 1 (pv 1)) (DE.o (de_lst (dae_cons (de_bin op_addD o_add (DE.o (de_bin op_addD o_add (DE.o (de_str t__1465 e_t__1465 c_t__1465)) (do_v 5 (pv 5)))) (DE.o (de_str t__1465 e_t__1465 c_t__1465))) dae_nil))))))))))))))))
theorem ok__law_due (T : Fx K mg) (n : Nat) : FnOk P w K mg base (L2.CX P w) (2 + n) T.a__law_due T.fd__law_due ["_law_told"] (spD (clK K) K 1 (d__law_due n)) := (okg__law_due T n)
theorem ok_Header___init__ (T : Fx K mg) : FnOk P w K mg base (L2.CX P w) 1 T.a_Header___init__ T.fd_Header___init__ ["self", "name", "text"] (spI (clK K) K 3 d_Header___init__) :=
  fn_okI (k := 0) T.F_Header___init__ sc_Header___init__ fun v0 cdv A outer s H E hr =>
    (dss_cons (ds_setF 0 (c := "Header") (n := "name") rfl T.cl_Header T.na_Header_name (pv 0) (de_v 1 (pv 1)))
      (dss_one (ds_setF 0 (c := "Header") (n := "known") rfl T.cl_Header T.na_Header_known (pv 0) (de_v 2 (pv 2)))))
theorem ok_copied (T : Fx K mg) : FnOk P w K mg base (L2.CX P w) 1 T.a_copied T.fd_copied ["thing"] (spD (clK K) K 1 d_copied) :=
  fn_ok (k := 0) T.F_copied sc_copied fun cdv A outer s H E hr =>
    (dss_cons (ds_if (dt_val (de_isTI (x := "") (y := "") (py := ⟨0, 0, 0, 0⟩) .list T.it_list (pe_bltn rfl T.z_list (by decide +kernel) rfl) rfl T.z_isinstance (do_v 0 (pv 0)))) (dss_one (ds_ret (de_t1 call_list_of o_list rfl T.z_list (by decide +kernel) (do_v 0 (pv 0))))) dss_nil)
      (dss_one (ds_retM 0 (pv 0))))
theorem ok_Piece___init__ (T : Fx K mg) : FnOk P w K mg base (L2.CX P w) 2 T.a_Piece___init__ T.fd_Piece___init__ ["self", "headers", "row", "pieces"] (spI (clK K) K 4 d_Piece___init__) :=
  fn_okID (k := 1) T.F_Piece___init__ sc_Piece___init__ fun v0 cdv A outer s H E hr =>
    (dss_cons (ds_setF 0 (c := "Piece") (n := "headers") rfl T.cl_Piece T.na_Piece_headers (pv 0) (de_call (ok_copied T) (hr.mono (by decide)) rfl T.g_copied T.F_copied.kp T.b_copied (takes_of rfl rfl rfl rfl) (da_cons (do_v 1 (pv 1)) da_nil)))
      (dss_cons (ds_setF 0 (c := "Piece") (n := "row") rfl T.cl_Piece T.na_Piece_row (pv 0) (de_call (ok_copied T) (hr.mono (by decide)) rfl T.g_copied T.F_copied.kp T.b_copied (takes_of rfl rfl rfl rfl) (da_cons (do_v 2 (pv 2)) da_nil)))
      (dss_one (ds_setF 0 (c := "Piece") (n := "pieces") rfl T.cl_Piece T.na_Piece_pieces (pv 0) (de_call (ok_copied T) (hr.mono (by decide)) rfl T.g_copied T.F_copied.kp T.b_copied (takes_of rfl rfl rfl rfl) (da_cons (do_v 3 (pv 3)) da_nil))))))
theorem okc_copied (T : Fx K mg) : FnOk P w K mg base (L2.CX P w) 1 T.a_copied T.fd_copied ["thing"] spCp :=
  fn_cp (k := 0) T.F_copied sc_copied (hbody := fun cdv A outer s H E => pss_cp rfl T.z_isinstance (pe_bltn rfl T.z_list (by decide +kernel) rfl) rfl T.z_list (pv 0) (pv 0) (pv 0))
theorem okc_Piece___init__ (T : Fx K mg) : FnOk P w K mg base (L2.CX P w) 2 T.a_Piece___init__ T.fd_Piece___init__ ["self", "headers", "row", "pieces"] (spC3 (clK K "Piece") (Str.ofString "headers") (Str.ofString "row") (Str.ofString "pieces")) :=
  fn_c3 (k := 1) T.F_Piece___init__ sc_Piece___init__ (hbody := fun cdv A outer s H E hr => pss_c3 (x := "copied") (okc_copied T) (hr.mono (by decide)) rfl T.g_copied T.F_copied.kp T.b_copied (takes_of rfl rfl rfl rfl) (clsB_ok T.cl_Piece) (naB_ok T.na_Piece_headers) (naB_ok T.na_Piece_row) (naB_ok T.na_Piece_pieces) (by decide) (by decide) (by decide) (pv 0) (pv 0) (pv 0) (pv 1) (pv 2) (pv 3))
theorem okg__law_made (T : Fx K mg) : ∀ n : Nat, (FnOk P w K mg base (L2.CX P w) (4 + n) T.a__law_made T.fd__law_made ["_law_told"] (spD (clK K) K 1 (d__law_made n)))
  | 0 => fn_ok (k := 3) T.F__law_made sc__law_made fun cdv A outer s H E hr => dss_no
  | n + 1 => by
    have okr__law_made := okg__law_made T n
    exact (fn_ok (k := 4 + n) T.F__law_made sc__law_made fun cdv A outer s H E hr =>
    (dss_cons (ds_setLc (i := 1) (own := [("_law_name", 4), ("_law_value", 5)]) (g := gTup K 2 (gCons (gName 4) (gCons (gName 5) gNil))) rfl rfl sc__law_made.nd rfl rfl (sw_true rfl rfl rfl (by decide +kernel)) (di_list (do_dg (hu1 hr) (fun _ _ => rfl) (do_v 0 (pv 0)) (DE.o (de_str t_headers e_t_headers c_t_headers)))) (blkOk_by (own := [("_law_name", 4), ("_law_value", 5)]) (N := ["_law_told", "_law_headers", "_law_inner", "_law_piece", "_law_name", "_law_value", "_law_one", "_law_sign"]) (sc := defScope s__law_made) (by decide +kernel)) (cg_tup2 4 5) (fun _ _ _ _ _ => (pg_tup rfl (pgs_cons (pg_name (i := 4) sc__law_made.nd rfl (by first | exact Or.inl rfl | exact Or.inr rfl)) (pgs_cons (pg_name (i := 5) sc__law_made.nd rfl (by first | exact Or.inl rfl | exact Or.inr rfl)) pgs_nil)))) (fun _ _ _ _ _ => dts_nil) (fun _ _ _ _ _ => (de_frz (de_make (c := "Header") T.mk_Header (ok_Header___init__ T) (hr.mono (by omega)) rfl T.gx_Header T.b_Header___init__ (da_cons (do_v 4 (pv 4)) (da_cons (do_v 5 (pv 5)) da_nil))))))
      (dss_cons (ds_if (dt_cmp (op_eqE (hu1 hr)) o_eqE (nomark _) (do_dg (hu1 hr) (fun _ _ => rfl) (do_v 0 (pv 0)) (DE.o (de_str t_pieces e_t_pieces c_t_pieces))) (DE.o (de_lst dae_nil))) (dss_one (ds_ret (de_makeC (c := "Piece") [.non] rfl rfl rfl (by decide) T.mk_Piece (okc_Piece___init__ T) (hr.mono (by omega)) rfl T.gx_Piece T.b1_Piece___init__.2 T.b1_Piece___init__.1 (fun _ _ => .cons .non (.nil)) (da_cons (do_v 1 (pv 1)) (da_cons (DE.o (de_frz (de_comp (own := [("_law_sign", 7)]) (g := gName 7) rfl rfl sc__law_made.nd (di_str (DE.o (de_m1 PySem.F.slot_str_join PySem.F.type_str_join mt_join o_join (DE.o (de_str t__693 e_t__693 c_t__693)) (do_dg (hu1 hr) (fun _ _ => rfl) (do_v 0 (pv 0)) (DE.o (de_str t_rows e_t_rows c_t_rows)))))) (blkOk_by (own := [("_law_sign", 7)]) (N := ["_law_told", "_law_headers", "_law_inner", "_law_piece", "_law_name", "_law_value", "_law_one", "_law_sign"]) (sc := defScope s__law_made) (by decide +kernel)) (cg_name 7) (fun _ _ _ _ _ => (pg_name (i := 7) sc__law_made.nd rfl (by first | exact Or.inl rfl | exact Or.inr rfl))) (fun _ _ _ _ _ => dts_nil) (fun _ _ _ _ _ => (de_b1 call_ord o_ord rfl T.z_ord (by decide +kernel) (do_v 7 (pv 7))))))) da_nil))))) dss_nil)
      (dss_cons (ds_setLc (i := 2) (own := [("_law_one", 6)]) (g := gName 6) rfl rfl sc__law_made.nd rfl rfl (sw_true rfl rfl rfl (by decide +kernel)) (di_list (do_dg (hu1 hr) (fun _ _ => rfl) (do_v 0 (pv 0)) (DE.o (de_str t_pieces e_t_pieces c_t_pieces)))) (blkOk_by (own := [("_law_one", 6)]) (N := ["_law_told", "_law_headers", "_law_inner", "_law_piece", "_law_name", "_law_value", "_law_one", "_law_sign"]) (sc := defScope s__law_made) (by decide +kernel)) (cg_name 6) (fun _ _ _ _ _ => (pg_name (i := 6) sc__law_made.nd rfl (by first | exact Or.inl rfl | exact Or.inr rfl))) (fun _ _ _ _ _ => dts_nil) (fun _ _ _ _ _ => (de_frz (de_call okr__law_made (hr.mono (by omega)) rfl T.g__law_made T.F__law_made.kp T.b__law_made takes0 (da_cons (do_v 6 (pv 6)) da_nil)))))
      (dss_cons (ds_set (i := 3) sc__law_made.nd rfl (by first | exact Or.inl rfl | exact Or.inr rfl) (de_makeC (c := "Piece") [] rfl rfl rfl (by decide) T.mk_Piece (okc_Piece___init__ T) (hr.mono (by omega)) rfl T.gx_Piece T.b_Piece___init__ .nil (fun _ _ => .nil) (da_cons (do_v 1 (pv 1)) (da_cons (DE.o de_non) (da_cons (do_v 2 (pv 2)) da_nil)))))
      (dss_cons (ds_app 2 (pv 2) (de_makeC (c := "Piece") [.non] rfl rfl rfl (by decide) T.mk_Piece (okc_Piece___init__ T) (hr.mono (by omega)) rfl T.gx_Piece T.b1_Piece___init__.2 T.b1_Piece___init__.1 (fun _ _ => .cons .non (.nil)) (da_cons (DE.o (de_frz (de_lst dae_nil))) (da_cons (DE.o (de_frz (de_lst (dae_cons de_int dae_nil)))) da_nil))))
      (dss_cons (ds_app 1 (pv 1) de_non)
      (dss_one (ds_retM 3 (pv 3))))))))))
theorem ok__law_made (T : Fx K mg) (n : Nat) : FnOk P w K mg base (L2.CX P w) (4 + n) T.a__law_made T.fd__law_made ["_law_told"] (spD (clK K) K 1 (d__law_made n)) := (okg__law_made T n)
theorem ok__law_deep (T : Fx K mg) : FnOk P w K mg base (L2.CX P w) 4 T.a__law_deep T.fd__law_deep ["_law_many", "_law_odd"] (spD (clK K) K 2 d__law_deep) :=
  fn_ok (k := 3) T.F__law_deep sc__law_deep fun cdv A outer s H E hr =>
    (dss_cons (ds_for (passes_of rfl) rfl (di_range1 rfl T.z_range (do_v 0 (pv 0))) (pg_name (i := 2) sc__law_deep.nd rfl (by first | exact Or.inl rfl | exact Or.inr rfl)) (sg_name 2) (dss_one (ds_set (i := 1) sc__law_deep.nd rfl (by first | exact Or.inl rfl | exact Or.inr rfl) (de_frz (de_make (c := "Piece") T.mk_Piece (ok_Piece___init__ T) (hr.mono (by decide)) rfl T.gx_Piece T.b_Piece___init__ (da_cons (DE.o (de_frz (de_lst (dae_cons (de_make (c := "Header") T.mk_Header (ok_Header___init__ T) (hr.mono (by decide)) rfl T.gx_Header T.b_Header___init__ (da_cons (DE.o (de_str t_b e_t_b c_t_b)) (da_cons (DE.o (de_str t_c e_t_c c_t_c)) da_nil))) dae_nil)))) (da_cons (DE.o de_non) (da_cons (DE.o (de_frz (de_lst (dae_cons (de_makeD (c := "Piece") [.non] T.mk_Piece (ok_Piece___init__ T) (hr.mono (by decide)) rfl T.gx_Piece T.b1_Piece___init__.2 T.b1_Piece___init__.1 (fun _ _ => (.cons .non .nil)) (da_cons (DE.o (de_frz (de_lst dae_nil))) (da_cons (DE.o (de_frz (de_lst (dae_cons de_int dae_nil)))) da_nil))) (dae_cons (de_v 1 (pv 1)) dae_nil))))) da_nil))))))))
      (dss_one (ds_retM 1 (pv 1))))
theorem ok_is_whole (T : Fx K mg) : FnOk P w K mg base (L2.CX P w) 1 T.a_is_whole T.fd_is_whole ["thing"] (spD (clK K) K 1 d_is_whole) :=
  fn_ok (k := 0) T.F_is_whole sc_is_whole fun cdv A outer s H E hr =>
    (dss_one (ds_ret (de_and (de_isT (x := "") (y := "") (py := ⟨0, 0, 0, 0⟩) .int (pe_bltn rfl T.z_int (by decide +kernel) rfl) rfl T.z_isinstance (do_v 0 (pv 0))) (de_one (de_not (de_isT (x := "") (y := "") (py := ⟨0, 0, 0, 0⟩) .bool (pe_bltn rfl T.z_bool (by decide +kernel) rfl) rfl T.z_isinstance (do_v 0 (pv 0))))))))
theorem ok_is_byte (T : Fx K mg) : FnOk P w K mg base (L2.CX P w) 2 T.a_is_byte T.fd_is_byte ["thing"] (spD (clK K) K 1 d_is_byte) :=
  fn_ok (k := 1) T.F_is_byte sc_is_byte fun cdv A outer s H E hr =>
    (dss_one (ds_ret (de_and (de_call (ok_is_whole T) (hr.mono (by decide)) rfl T.g_is_whole T.F_is_whole.kp T.b_is_whole (takes_of rfl rfl rfl rfl) (da_cons (do_v 0 (pv 0)) da_nil)) (de_one (de_chn op_le op_le o_le o_le (DE.o de_int) (do_v 0 (pv 0)) (DE.o de_int))))))
theorem ok_are_bytes (T : Fx K mg) : FnOk P w K mg base (L2.CX P w) 3 T.a_are_bytes T.fd_are_bytes ["thing"] (spD (clK K) K 1 d_are_bytes) :=
  fn_ok (k := 2) T.F_are_bytes sc_are_bytes fun cdv A outer s H E hr =>
    (dss_one (ds_ret (de_and (de_isT (x := "") (y := "") (py := ⟨0, 0, 0, 0⟩) .list (pe_bltn rfl T.z_list (by decide +kernel) rfl) rfl T.z_isinstance (do_v 0 (pv 0))) (de_one (de_b1 (cr_all rfl) o_all rfl T.z_all (by decide +kernel) (DE.o (de_comp (own := [("one", 1)]) (g := gName 1) rfl rfl sc_are_bytes.nd (di_list (do_v 0 (pv 0))) (blkOk_by (own := [("one", 1)]) (N := ["thing", "one"]) (sc := defScope s_are_bytes) (by decide +kernel)) (cg_name 1) (fun _ _ _ _ _ => (pg_name (i := 1) sc_are_bytes.nd rfl (by first | exact Or.inl rfl | exact Or.inr rfl))) (fun _ _ _ _ _ => dts_nil) (fun _ _ _ _ _ => (de_call (ok_is_byte T) (hr.mono (by decide)) rfl T.g_is_byte T.F_is_byte.kp T.b_is_byte takes0 (da_cons (do_v 1 (pv 1)) da_nil))))))))))
theorem okg_is_piece (T : Fx K mg) : ∀ n : Nat, (FnOk P w K mg base (L2.CX P w) (4 + n) T.a_is_piece T.fd_is_piece ["thing", "deep"] (spD (clK K) K 2 (d_is_piece n)))
  | 0 => fn_ok (k := 3) T.F_is_piece sc_is_piece fun cdv A outer s H E hr => dss_no
  | n + 1 => by
    have okr_is_piece := okg_is_piece T n
    exact (fn_ok (k := 4 + n) T.F_is_piece sc_is_piece fun cdv A outer s H E hr =>
    (dss_cons (ds_if (DW.t (dw_or (dt_not (dt_val (de_isI T.ii_Piece rfl T.gx_Piece rfl T.z_isinstance (do_v 0 (pv 0))))) (dw_or (dt_cmp (op_eqD hr.units) o_eq (nomark _) (do_v 1 (pv 1)) (DE.o de_int)) (dw_or1 (dt_not (dt_val (de_isTI (x := "") (y := "") (py := ⟨0, 0, 0, 0⟩) .list T.it_list (pe_bltn rfl T.z_list (by decide +kernel) rfl) rfl T.z_isinstance (do_fld (c := "Piece") (n := "headers") rfl T.cl_Piece T.na_Piece_headers (do_v 0 (pv 0)))))))))) (dss_one (ds_ret de_bl)) dss_nil)
      (dss_cons (ds_if (dt_not (dt_val (de_b1 (cr_all rfl) o_all rfl T.z_all (by decide +kernel) (DE.o (de_comp (own := [("header", 3)]) (g := gName 3) rfl rfl sc_is_piece.nd (di_list (do_fld (c := "Piece") (n := "headers") rfl T.cl_Piece T.na_Piece_headers (do_v 0 (pv 0)))) (blkOk_by (own := [("header", 3)]) (N := ["thing", "deep", "one", "header"]) (sc := defScope s_is_piece) (by decide +kernel)) (cg_name 3) (fun _ _ _ _ _ => (pg_name (i := 3) sc_is_piece.nd rfl (by first | exact Or.inl rfl | exact Or.inr rfl))) (fun _ _ _ _ _ => dts_nil) (fun _ _ _ _ _ => (de_and (de_isI T.ii_Header rfl T.gx_Header rfl T.z_isinstance (do_v 3 (pv 3))) (de_one (de_cmp (op_neD hr.units) o_ne (nomark _) (do_fld (c := "Header") (n := "name") rfl T.cl_Header T.na_Header_name (do_v 3 (pv 3))) (DE.o (de_str t_body e_t_body c_t_body))))))))))) (dss_one (ds_ret de_bl)) dss_nil)
      (dss_cons (ds_if (dt_isN (do_fld (c := "Piece") (n := "pieces") rfl T.cl_Piece T.na_Piece_pieces (do_v 0 (pv 0)))) (dss_one (ds_ret (de_call (ok_are_bytes T) (hr.mono (by omega)) rfl T.g_are_bytes T.F_are_bytes.kp T.b_are_bytes (takes_of rfl rfl rfl rfl) (da_cons (do_fld (c := "Piece") (n := "row") rfl T.cl_Piece T.na_Piece_row (do_v 0 (pv 0))) da_nil)))) dss_nil)
      (dss_cons (ds_if (DW.t (dw_or (dt_notN (do_fld (c := "Piece") (n := "row") rfl T.cl_Piece T.na_Piece_row (do_v 0 (pv 0)))) (dw_or (dt_not (dt_val (de_isTI (x := "") (y := "") (py := ⟨0, 0, 0, 0⟩) .list T.it_list (pe_bltn rfl T.z_list (by decide +kernel) rfl) rfl T.z_isinstance (do_fld (c := "Piece") (n := "pieces") rfl T.cl_Piece T.na_Piece_pieces (do_v 0 (pv 0)))))) (dw_or1 (dt_not (dt_chain op_le op_le o_le o_le (DE.o de_int) (DE.o (de_b1 call_len o_len rfl T.z_len (by decide +kernel) (do_fld (c := "Piece") (n := "pieces") rfl T.cl_Piece T.na_Piece_pieces (do_v 0 (pv 0))))) (DE.o (de_gi rfl T.c_MOST_PIECES)))))))) (dss_one (ds_ret de_bl)) dss_nil)
      (dss_one (ds_ret (de_b1 (cr_all rfl) o_all rfl T.z_all (by decide +kernel) (DE.o (de_comp (own := [("one", 2)]) (g := gName 2) rfl rfl sc_is_piece.nd (di_list (do_fld (c := "Piece") (n := "pieces") rfl T.cl_Piece T.na_Piece_pieces (do_v 0 (pv 0)))) (blkOk_by (own := [("one", 2)]) (N := ["thing", "deep", "one", "header"]) (sc := defScope s_is_piece) (by decide +kernel)) (cg_name 2) (fun _ _ _ _ _ => (pg_name (i := 2) sc_is_piece.nd rfl (by first | exact Or.inl rfl | exact Or.inr rfl))) (fun _ _ _ _ _ => dts_nil) (fun _ _ _ _ _ => (de_call okr_is_piece (hr.mono (by omega)) rfl T.g_is_piece T.F_is_piece.kp T.b_is_piece takes0 (da_cons (do_v 2 (pv 2)) (da_cons (DE.o (de_bin op_sub o_sub (do_v 1 (pv 1)) (DE.o de_int))) da_nil))))))))))))))
theorem ok_is_piece (T : Fx K mg) (n : Nat) : FnOk P w K mg base (L2.CX P w) (4 + n) T.a_is_piece T.fd_is_piece ["thing", "deep"] (spD (clK K) K 2 (d_is_piece n)) := (okg_is_piece T n)
theorem ok_need_piece (T : Fx K mg) : FnOk P w K mg base (L2.CX P w) 25 T.a_need_piece T.fd_need_piece ["thing"] (spD (clK K) K 1 d_need_piece) :=
  fn_ok (k := 24) T.F_need_piece sc_need_piece fun cdv A outer s H E hr =>
    (dss_one (ds_if (dt_not (dt_val (de_call (ok_is_piece T 20) (hr.mono (by decide)) rfl T.g_is_piece T.F_is_piece.kp T.b_is_piece (takes_of rfl rfl rfl rfl) (da_cons (do_v 0 (pv 0)) (da_cons (DE.o (de_gi rfl T.c_MOST_DEEP)) da_nil))))) (dss_one (ds_raiseK (c := "BadPiece") rfl (takes_of rfl rfl rfl rfl) T.xk_BadPiece T.gx_BadPiece rfl)) dss_nil))
theorem ok_Header_value (T : Fx K mg) : FnOk P w K mg base (L2.CX P w) 1 T.a_Header_value T.fd_Header_value ["self"] (spD (clK K) K 1 d_Header_value) :=
  fn_ok (k := 0) T.F_Header_value sc_Header_value fun cdv A outer s H E hr =>
    (dss_one (ds_ret (de_fld (c := "Header") (n := "known") rfl T.cl_Header T.na_Header_known (do_v 0 (pv 0)))))
theorem ok_border_of (T : Fx K mg) : FnOk P w K mg base (L2.CX P w) 1 T.a_border_of T.fd_border_of ["rows"] (spD (clK K) K 1 d_border_of) :=
  fn_ok (k := 0) T.F_border_of sc_border_of fun cdv A outer s H E hr =>
    (dss_cons (ds_set (i := 1) sc_border_of.nd rfl (by first | exact Or.inl rfl | exact Or.inr rfl) de_int)
      (dss_cons (ds_while 1000000 (passes_of rfl) (dt_val (de_b1 (cr_any rfl) o_any rfl T.z_any (by decide +kernel) (DE.o (de_comp (own := [("row", 2)]) (g := gName 2) rfl rfl sc_border_of.nd (di_list (do_v 0 (pv 0))) (blkOk_by (own := [("row", 2)]) (N := ["rows", "number", "row"]) (sc := defScope s_border_of) (by decide +kernel)) (cg_name 2) (fun _ _ _ _ _ => (pg_name (i := 2) sc_border_of.nd rfl (by first | exact Or.inl rfl | exact Or.inr rfl))) (fun _ _ _ _ _ => dts_nil) (fun _ _ _ _ _ => (de_m1 PySem.F.slot_str_startswith PySem.F.type_str_startswith mt_startswith o_starts (do_v 2 (pv 2)) (DE.o (de_fs t_b_563a e_t_b_563a c_t_b_563a rfl (do_v 1 (pv 1)))))))))) (dss_one (ds_set (i := 1) sc_border_of.nd rfl (by first | exact Or.inl rfl | exact Or.inr rfl) (de_bin op_addD o_add (do_v 1 (pv 1)) (DE.o de_int)))))
      (dss_one (ds_ret (de_fs t_b e_t_b c_t_b rfl (do_v 1 (pv 1)))))))
theorem ok_sign_by (T : Fx K mg) : FnOk P w K mg base (L2.CX P w) 1 T.a_sign_by T.fd_sign_by ["byte"] (spD (clK K) K 1 d_sign_by) :=
  fn_ok (k := 0) T.F_sign_by sc_sign_by fun cdv A outer s H E hr =>
    (dss_cons (ds_if (DW.t (dw_or (dt_not (dt_chain op_le op_le o_le o_le (DE.o (de_gi rfl T.c_FIRST_SIGN)) (do_v 0 (pv 0)) (DE.o (de_gi rfl T.c_LAST_SIGN)))) (dw_or1 (dt_cmp (op_eqD hr.units) o_eq (nomark _) (do_v 0 (pv 0)) (DE.o (de_gi rfl T.c_LEFT_OUT)))))) (dss_one (ds_ret (de_str t__0 e_t__0 c_t__0))) dss_nil)
      (dss_one (ds_ret (de_ix (fun _ _ => rfl) (DE.o (de_gs rfl T.c_SIGNS c_t_01234567_b361)) (DE.o (de_bin op_sub o_sub (DE.o (de_bin op_sub o_sub (do_v 0 (pv 0)) (DE.o (de_gi rfl T.c_FIRST_SIGN)))) (DE.o (de_t1 call_int1 o_int rfl T.z_int (by decide +kernel) (DE.o (de_cmp op_gt o_gt (nomark _) (do_v 0 (pv 0)) (DE.o (de_gi rfl T.c_LEFT_OUT))))))))))))
theorem ok_plain_rows (T : Fx K mg) : FnOk P w K mg base (L2.CX P w) 2 T.a_plain_rows T.fd_plain_rows ["row"] (spD (clK K) K 1 d_plain_rows) :=
  fn_ok (k := 1) T.F_plain_rows sc_plain_rows fun cdv A outer s H E hr =>
    (dss_cons (ds_set (i := 1) sc_plain_rows.nd rfl (by first | exact Or.inl rfl | exact Or.inr rfl) (de_lst (dae_cons (de_str t__0 e_t__0 c_t__0) dae_nil)))
      (dss_cons (ds_for (passes_of rfl) rfl (di_listS (do_v 0 (pv 0))) (pg_name (i := 2) sc_plain_rows.nd rfl (by first | exact Or.inl rfl | exact Or.inr rfl)) (sg_name 2) (dss_one (ds_if (dt_cmp (op_eqD hr.units) o_eq (nomark _) (do_v 2 (pv 2)) (DE.o (de_gi rfl T.c_END))) (dss_one (ds_app 1 (pv 1) (de_str t__0 e_t__0 c_t__0))) (dss_one (ds_if (DW.t (dw_or (dt_cmp (op_eqD hr.units) o_eq (nomark _) (DE.o (de_call (ok_sign_by T) (hr.mono (by decide)) rfl T.g_sign_by T.F_sign_by.kp T.b_sign_by (takes_of rfl rfl rfl rfl) (da_cons (do_v 2 (pv 2)) da_nil))) (DE.o (de_str t__0 e_t__0 c_t__0))) (dw_or1 (dt_cmp (op_eqD hr.units) o_eq (nomark _) (DE.o (de_b1 call_len o_len rfl T.z_len (by decide +kernel) (do_ix (fun _ _ => rfl) (do_v 1 (pv 1)) (DE.o (de_un un_neg o_neg (DE.o de_int)))))) (DE.o (de_gi rfl T.c_MOST_ROW)))))) (dss_one (ds_ret de_non)) (dss_one (ds_setIx 1 (dp_v (pv 1)) (DE.o (de_un un_neg o_neg (DE.o de_int))) (de_bin op_addD o_add (do_ix (fun _ _ => rfl) (do_v 1 (pv 1)) (DE.o (de_un un_neg o_neg (DE.o de_int)))) (DE.o (de_call (ok_sign_by T) (hr.mono (by decide)) rfl T.g_sign_by T.F_sign_by.kp T.b_sign_by (takes_of rfl rfl rfl rfl) (da_cons (do_v 2 (pv 2)) da_nil)))))))))))
      (dss_cons (ds_if (dt_val (de_b1 (cr_any rfl) o_any rfl T.z_any (by decide +kernel) (DE.o (de_comp (own := [("one", 3)]) (g := gName 3) rfl rfl sc_plain_rows.nd (di_list (do_v 1 (pv 1))) (blkOk_by (own := [("one", 3)]) (N := ["row", "rows", "byte", "one"]) (sc := defScope s_plain_rows) (by decide +kernel)) (cg_name 3) (fun _ _ _ _ _ => (pg_name (i := 3) sc_plain_rows.nd rfl (by first | exact Or.inl rfl | exact Or.inr rfl))) (fun _ _ _ _ _ => dts_nil) (fun _ _ _ _ _ => (de_m1 PySem.F.slot_str_endswith PySem.F.type_str_endswith mt_endswith o_ends (do_v 3 (pv 3)) (DE.o (de_str t__cf45 e_t__cf45 c_t__cf45)))))))) (dss_one (ds_ret de_non)) dss_nil)
      (dss_one (ds_retM 1 (pv 1))))))
theorem ok_signs_in (T : Fx K mg) : FnOk P w K mg base (L2.CX P w) 1 T.a_signs_in T.fd_signs_in ["rows"] (spD (clK K) K 1 d_signs_in) :=
  fn_ok (k := 0) T.F_signs_in sc_signs_in fun cdv A outer s H E hr =>
    (dss_one (ds_ret (de_b1 (cr_sum rfl) o_sum rfl T.z_sum (by decide +kernel) (DE.o (de_comp (own := [("row", 1)]) (g := gName 1) rfl rfl sc_signs_in.nd (di_list (do_v 0 (pv 0))) (blkOk_by (own := [("row", 1)]) (N := ["rows", "row"]) (sc := defScope s_signs_in) (by decide +kernel)) (cg_name 1) (fun _ _ _ _ _ => (pg_name (i := 1) sc_signs_in.nd rfl (by first | exact Or.inl rfl | exact Or.inr rfl))) (fun _ _ _ _ _ => dts_nil) (fun _ _ _ _ _ => (de_bin op_addD o_add (DE.o (de_b1 call_len o_len rfl T.z_len (by decide +kernel) (do_v 1 (pv 1)))) (DE.o de_int))))))))
theorem ok_cut_rows (T : Fx K mg) : FnOk P w K mg base (L2.CX P w) 1 T.a_cut_rows T.fd_cut_rows ["units"] (spD (clK K) K 1 d_cut_rows) :=
  fn_ok (k := 0) T.F_cut_rows sc_cut_rows fun cdv A outer s H E hr =>
    (dss_cons (ds_set (i := 1) sc_cut_rows.nd rfl (by first | exact Or.inl rfl | exact Or.inr rfl) (de_lst dae_nil))
      (dss_cons (ds_set (i := 2) sc_cut_rows.nd rfl (by first | exact Or.inl rfl | exact Or.inr rfl) (de_str t__0 e_t__0 c_t__0))
      (dss_cons (ds_set (i := 3) sc_cut_rows.nd rfl (by first | exact Or.inl rfl | exact Or.inr rfl) (de_b1 (cr_sum rfl) o_sum rfl T.z_sum (by decide +kernel) (DE.o (de_comp (own := [("unit", 4)]) (g := gName 4) rfl rfl sc_cut_rows.nd (di_list (do_v 0 (pv 0))) (blkOk_by (own := [("unit", 4)]) (N := ["units", "rows", "row", "left", "unit"]) (sc := defScope s_cut_rows) (by decide +kernel)) (cg_name 4) (fun _ _ _ _ _ => (pg_name (i := 4) sc_cut_rows.nd rfl (by first | exact Or.inl rfl | exact Or.inr rfl))) (fun _ _ _ _ _ => dts_nil) (fun _ _ _ _ _ => (de_b1 call_len o_len rfl T.z_len (by decide +kernel) (do_v 4 (pv 4))))))))
      (dss_cons (ds_for (passes_of rfl) rfl (di_listS (do_v 0 (pv 0))) (pg_name (i := 4) sc_cut_rows.nd rfl (by first | exact Or.inl rfl | exact Or.inr rfl)) (sg_name 4) (dss_cons (ds_if (DW.t (dw_and (dt_cmp op_gt o_gt (nomark _) (DE.o (de_bin op_addD o_add (DE.o (de_b1 call_len o_len rfl T.z_len (by decide +kernel) (do_v 2 (pv 2)))) (do_v 3 (pv 3)))) (DE.o (de_gi rfl T.c_MOST_ROW))) (dw_and1 (dt_cmp op_ge o_ge (nomark _) (DE.o (de_bin op_addD o_add (DE.o (de_b1 call_len o_len rfl T.z_len (by decide +kernel) (do_v 2 (pv 2)))) (DE.o (de_b1 call_len o_len rfl T.z_len (by decide +kernel) (do_v 4 (pv 4)))))) (DE.o (de_gi rfl T.c_MOST_ROW)))))) (dss_cons (ds_app 1 (pv 1) (de_bin op_addD o_add (do_v 2 (pv 2)) (DE.o (de_str t__a39c e_t__a39c c_t__a39c))))
      (dss_one (ds_set (i := 2) sc_cut_rows.nd rfl (by first | exact Or.inl rfl | exact Or.inr rfl) (de_str t__0 e_t__0 c_t__0)))) dss_nil)
      (dss_cons (ds_set (i := 2) sc_cut_rows.nd rfl (by first | exact Or.inl rfl | exact Or.inr rfl) (de_bin op_addD o_add (do_v 2 (pv 2)) (do_v 4 (pv 4))))
      (dss_one (ds_set (i := 3) sc_cut_rows.nd rfl (by first | exact Or.inl rfl | exact Or.inr rfl) (de_bin op_sub o_sub (do_v 3 (pv 3)) (DE.o (de_b1 call_len o_len rfl T.z_len (by decide +kernel) (do_v 4 (pv 4))))))))))
      (dss_one (ds_ret (de_bin op_addD o_add (do_v 1 (pv 1)) (DE.o (de_lst (dae_cons (de_v 2 (pv 2)) dae_nil))))))))))
theorem ok_need_bytes (T : Fx K mg) : FnOk P w K mg base (L2.CX P w) 3 T.a_need_bytes T.fd_need_bytes ["row"] (spD (clK K) K 1 d_need_bytes) :=
  fn_ok (k := 2) T.F_need_bytes sc_need_bytes fun cdv A outer s H E hr =>
    (dss_one (ds_if (DW.t (dw_or (dt_not (dt_val (de_isT (x := "") (y := "") (py := ⟨0, 0, 0, 0⟩) .list (pe_bltn rfl T.z_list (by decide +kernel) rfl) rfl T.z_isinstance (do_v 0 (pv 0))))) (dw_or1 (dt_not (dt_val (de_b1 (cr_all rfl) o_all rfl T.z_all (by decide +kernel) (DE.o (de_comp (own := [("byte", 1)]) (g := gName 1) rfl rfl sc_need_bytes.nd (di_list (do_v 0 (pv 0))) (blkOk_by (own := [("byte", 1)]) (N := ["row", "byte"]) (sc := defScope s_need_bytes) (by decide +kernel)) (cg_name 1) (fun _ _ _ _ _ => (pg_name (i := 1) sc_need_bytes.nd rfl (by first | exact Or.inl rfl | exact Or.inr rfl))) (fun _ _ _ _ _ => dts_nil) (fun _ _ _ _ _ => (de_call (ok_is_byte T) (hr.mono (by decide)) rfl T.g_is_byte T.F_is_byte.kp T.b_is_byte takes0 (da_cons (do_v 1 (pv 1)) da_nil))))))))))) (dss_one (ds_raiseK (c := "BadBytes") rfl (takes_of rfl rfl rfl rfl) T.xk_BadBytes T.gx_BadBytes rfl)) dss_nil))
theorem ok_parted (T : Fx K mg) : FnOk P w K mg base (L2.CX P w) 1 T.a_parted T.fd_parted ["row"] (spD (clK K) K 1 d_parted) :=
  fn_ok (k := 0) T.F_parted sc_parted fun cdv A outer s H E hr =>
    (dss_cons (ds_set (i := 1) sc_parted.nd rfl (by first | exact Or.inl rfl | exact Or.inr rfl) (de_lst (dae_cons (de_lst dae_nil) dae_nil)))
      (dss_cons (ds_for (passes_of rfl) rfl (di_listS (do_v 0 (pv 0))) (pg_name (i := 2) sc_parted.nd rfl (by first | exact Or.inl rfl | exact Or.inr rfl)) (sg_name 2) (dss_one (ds_if (dt_cmp (op_eqD hr.units) o_eq (nomark _) (do_v 2 (pv 2)) (DE.o (de_gi rfl T.c_ROW_END))) (dss_one (ds_app 1 (pv 1) (de_lst dae_nil))) (dss_one (ds_appP 1 (dp_ix (fun _ _ => rfl) (dp_v (pv 1)) (DE.o (de_un un_neg o_neg (DE.o de_int)))) (de_v 2 (pv 2)))))))
      (dss_one (ds_retM 1 (pv 1)))))
theorem ok_unit_of (T : Fx K mg) : FnOk P w K mg base (L2.CX P w) 2 T.a_unit_of T.fd_unit_of ["byte", "is_end"] (spD (clK K) K 2 d_unit_of) :=
  fn_ok (k := 1) T.F_unit_of sc_unit_of fun cdv A outer s H E hr =>
    (dss_cons (ds_set (i := 2) sc_unit_of.nd rfl (by first | exact Or.inl rfl | exact Or.inr rfl) (de_call (ok_sign_by T) (hr.mono (by decide)) rfl T.g_sign_by T.F_sign_by.kp T.b_sign_by (takes_of rfl rfl rfl rfl) (da_cons (do_v 0 (pv 0)) da_nil)))
      (dss_cons (ds_if (DW.t (dw_or (dt_cmp op_inD o_in rfl (do_v 2 (pv 2)) (DE.o (de_tup (dae_cons (de_str t__0 e_t__0 c_t__0) (dae_cons (de_str t__a39c e_t__a39c c_t__a39c) dae_nil))))) (dw_or1 (DW.t (dw_and (dt_cmp (op_eqD hr.units) o_eq (nomark _) (do_v 0 (pv 0)) (DE.o (de_gi rfl T.c_FIRST_SIGN))) (dw_and1 (dt_val (de_v 1 (pv 1))))))))) (dss_one (ds_ret (de_bin op_addD o_add (DE.o (de_bin op_addD o_add (DE.o (de_str t__a39c e_t__a39c c_t__a39c)) (do_ix (fun _ _ => rfl) (DE.o (de_gs rfl T.c_SIXTEEN c_t_01234567_37b5)) (DE.o (de_bin op_shr o_shr (do_v 0 (pv 0)) (DE.o de_int)))))) (do_ix (fun _ _ => rfl) (DE.o (de_gs rfl T.c_SIXTEEN c_t_01234567_37b5)) (DE.o (de_bin op_and o_band (do_v 0 (pv 0)) (DE.o de_int))))))) dss_nil)
      (dss_one (ds_retM 2 (pv 2)))))
theorem ok_sixteens_of (T : Fx K mg) : FnOk P w K mg base (L2.CX P w) 4 T.a_sixteens_of T.fd_sixteens_of ["row"] (spD (clK K) K 1 d_sixteens_of) :=
  fn_ok (k := 3) T.F_sixteens_of sc_sixteens_of fun cdv A outer s H E hr =>
    (dss_cons (ds_drop (de_call (ok_need_bytes T) (hr.mono (by decide)) rfl T.g_need_bytes T.F_need_bytes.kp T.b_need_bytes (takes_of rfl rfl rfl rfl) (da_cons (do_v 0 (pv 0)) da_nil)))
      (dss_cons (ds_set (i := 1) sc_sixteens_of.nd rfl (by first | exact Or.inl rfl | exact Or.inr rfl) (de_lst dae_nil))
      (dss_cons (ds_for (passes_of rfl) rfl (di_listS (DE.o (de_frz (de_call (ok_parted T) (hr.mono (by decide)) rfl T.g_parted T.F_parted.kp T.b_parted (takes_of rfl rfl rfl rfl) (da_cons (do_v 0 (pv 0)) da_nil))))) (pg_name (i := 2) sc_sixteens_of.nd rfl (by first | exact Or.inl rfl | exact Or.inr rfl)) (sg_name 2) (dss_one (ds_ext 1 (pv 1) (de_call (ok_cut_rows T) (hr.mono (by decide)) rfl T.g_cut_rows T.F_cut_rows.kp T.b_cut_rows (takes_of rfl rfl rfl rfl) (da_cons (DE.o (de_comp (own := [("at", 3), ("byte", 4)]) (g := gTup K 2 (gCons (gName 3) (gCons (gName 4) gNil))) rfl rfl sc_sixteens_of.nd (di_enum rfl T.z_enumerate (do_v 2 (pv 2))) (blkOk_by (own := [("at", 3), ("byte", 4)]) (N := ["row", "found", "part", "at", "byte"]) (sc := defScope s_sixteens_of) (by decide +kernel)) (cg_tup2 3 4) (fun _ _ _ _ _ => (pg_tup rfl (pgs_cons (pg_name (i := 3) sc_sixteens_of.nd rfl (by first | exact Or.inl rfl | exact Or.inr rfl)) (pgs_cons (pg_name (i := 4) sc_sixteens_of.nd rfl (by first | exact Or.inl rfl | exact Or.inr rfl)) pgs_nil)))) (fun _ _ _ _ _ => dts_nil) (fun _ _ _ _ _ => (de_call (ok_unit_of T) (hr.mono (by decide)) rfl T.g_unit_of T.F_unit_of.kp T.b_unit_of takes0 (da_cons (do_v 4 (pv 4)) (da_cons (DE.o (de_cmp (op_eqD hr.units) o_eq (nomark _) (do_v 3 (pv 3)) (DE.o (de_bin op_sub o_sub (DE.o (de_b1 call_len o_len rfl T.z_len (by decide +kernel) (do_v 2 (pv 2)))) (DE.o de_int))))) da_nil)))))) da_nil)))))
      (dss_one (ds_retM 1 (pv 1))))))
theorem ok_four_of (T : Fx K mg) : FnOk P w K mg base (L2.CX P w) 1 T.a_four_of T.fd_four_of ["three"] (spD (clK K) K 1 d_four_of) :=
  fn_ok (k := 0) T.F_four_of sc_four_of fun cdv A outer s H E hr =>
    (dss_cons (ds_set (i := 1) sc_four_of.nd rfl (by first | exact Or.inl rfl | exact Or.inr rfl) de_int)
      (dss_cons (ds_for (passes_of rfl) rfl (di_listS (DE.o (de_frz (de_bin op_addD o_add (do_v 0 (pv 0)) (DE.o (de_bin op_mulD o_mul (DE.o (de_lst (dae_cons de_int dae_nil))) (DE.o (de_bin op_sub o_sub (DE.o de_int) (DE.o (de_b1 call_len o_len rfl T.z_len (by decide +kernel) (do_v 0 (pv 0)))))))))))) (pg_name (i := 2) sc_four_of.nd rfl (by first | exact Or.inl rfl | exact Or.inr rfl)) (sg_name 2) (dss_one (ds_set (i := 1) sc_four_of.nd rfl (by first | exact Or.inl rfl | exact Or.inr rfl) (de_bin op_or o_bor (DE.o (de_bin op_shl o_shl (do_v 1 (pv 1)) (DE.o de_int))) (do_v 2 (pv 2))))))
      (dss_cons (ds_set (i := 3) sc_four_of.nd rfl (by first | exact Or.inl rfl | exact Or.inr rfl) (de_str t__0 e_t__0 c_t__0))
      (dss_cons (ds_for (passes_of rfl) rfl (di_tupS (DE.o (de_frz (de_tup (dae_cons de_int (dae_cons de_int (dae_cons de_int (dae_cons de_int dae_nil)))))))) (pg_name (i := 4) sc_four_of.nd rfl (by first | exact Or.inl rfl | exact Or.inr rfl)) (sg_name 4) (dss_one (ds_set (i := 3) sc_four_of.nd rfl (by first | exact Or.inl rfl | exact Or.inr rfl) (de_bin op_addD o_add (do_v 3 (pv 3)) (do_ix (fun _ _ => rfl) (DE.o (de_gs rfl T.c_SIXTY c_t_ABCDEFGH_2ddd)) (DE.o (de_bin op_and o_band (DE.o (de_bin op_shr o_shr (do_v 1 (pv 1)) (do_v 4 (pv 4)))) (DE.o de_int))))))))
      (dss_one (ds_ret (de_bin op_addD o_add (DE.o (de_slHi (do_v 3 (pv 3)) (DE.o (de_bin op_addD o_add (DE.o (de_b1 call_len o_len rfl T.z_len (by decide +kernel) (do_v 0 (pv 0)))) (DE.o de_int))))) (DE.o (de_bin op_mulD o_mul (DE.o (de_str t__a39c e_t__a39c c_t__a39c)) (DE.o (de_bin op_sub o_sub (DE.o de_int) (DE.o (de_b1 call_len o_len rfl T.z_len (by decide +kernel) (do_v 0 (pv 0)))))))))))))))
theorem ok_sixty_of (T : Fx K mg) : FnOk P w K mg base (L2.CX P w) 4 T.a_sixty_of T.fd_sixty_of ["row"] (spD (clK K) K 1 d_sixty_of) :=
  fn_ok (k := 3) T.F_sixty_of sc_sixty_of fun cdv A outer s H E hr =>
    (dss_cons (ds_drop (de_call (ok_need_bytes T) (hr.mono (by decide)) rfl T.g_need_bytes T.F_need_bytes.kp T.b_need_bytes (takes_of rfl rfl rfl rfl) (da_cons (do_v 0 (pv 0)) da_nil)))
      (dss_cons (ds_set (i := 1) sc_sixty_of.nd rfl (by first | exact Or.inl rfl | exact Or.inr rfl) (de_m1 PySem.F.slot_str_join PySem.F.type_str_join mt_join o_join (DE.o (de_str t__0 e_t__0 c_t__0)) (DE.o (de_comp (own := [("at", 2)]) (g := gName 2) rfl rfl sc_sixty_of.nd (di_range3v rfl T.z_range (DE.o de_int) (DE.o (de_b1 call_len o_len rfl T.z_len (by decide +kernel) (do_v 0 (pv 0)))) (DE.o de_int)) (blkOk_by (own := [("at", 2)]) (N := ["row", "text", "at"]) (sc := defScope s_sixty_of) (by decide +kernel)) (cg_name 2) (fun _ _ _ _ _ => (pg_name (i := 2) sc_sixty_of.nd rfl (by first | exact Or.inl rfl | exact Or.inr rfl))) (fun _ _ _ _ _ => dts_nil) (fun _ _ _ _ _ => (de_call (ok_four_of T) (hr.mono (by decide)) rfl T.g_four_of T.F_four_of.kp T.b_four_of takes0 (da_cons (DE.o (de_t1 call_list_of o_list rfl T.z_list (by decide +kernel) (DE.o (de_slLH (do_v 0 (pv 0)) (do_v 2 (pv 2)) (DE.o (de_bin op_addD o_add (do_v 2 (pv 2)) (DE.o de_int))))))) da_nil)))))))
      (dss_one (ds_ret (de_comp (own := [("at", 2)]) (g := gName 2) rfl rfl sc_sixty_of.nd (di_range3v rfl T.z_range (DE.o de_int) (DE.o (de_b1 call_len o_len rfl T.z_len (by decide +kernel) (do_v 1 (pv 1)))) (DE.o (de_gi rfl T.c_MOST_ROW))) (blkOk_by (own := [("at", 2)]) (N := ["row", "text", "at"]) (sc := defScope s_sixty_of) (by decide +kernel)) (cg_name 2) (fun _ _ _ _ _ => (pg_name (i := 2) sc_sixty_of.nd rfl (by first | exact Or.inl rfl | exact Or.inr rfl))) (fun _ _ _ _ _ => dts_nil) (fun _ _ _ _ _ => (de_slLH (do_v 1 (pv 1)) (do_v 2 (pv 2)) (DE.o (de_bin op_addD o_add (do_v 2 (pv 2)) (DE.o (de_gi rfl T.c_MOST_ROW)))))))))))
theorem ok_bytes_written (T : Fx K mg) : FnOk P w K mg base (L2.CX P w) 5 T.a_bytes_written T.fd_bytes_written ["row"] (spD (clK K) K 1 d_bytes_written) :=
  fn_ok (k := 4) T.F_bytes_written sc_bytes_written fun cdv A outer s H E hr =>
    (dss_cons (ds_set (i := 1) sc_bytes_written.nd rfl (by first | exact Or.inl rfl | exact Or.inr rfl) (de_call (ok_plain_rows T) (hr.mono (by decide)) rfl T.g_plain_rows T.F_plain_rows.kp T.b_plain_rows (takes_of rfl rfl rfl rfl) (da_cons (do_v 0 (pv 0)) da_nil)))
      (dss_cons (ds_if (dt_notN (do_v 1 (pv 1))) (dss_one (ds_frz 1 (ds_ret (de_tup (dae_cons (de_str t_plain e_t_plain c_t_plain) (dae_cons (de_v 1 (pv 1)) dae_nil)))))) dss_nil)
      (dss_cons (ds_set (i := 1) sc_bytes_written.nd rfl (by first | exact Or.inl rfl | exact Or.inr rfl) (de_call (ok_sixteens_of T) (hr.mono (by decide)) rfl T.g_sixteens_of T.F_sixteens_of.kp T.b_sixteens_of (takes_of rfl rfl rfl rfl) (da_cons (do_v 0 (pv 0)) da_nil)))
      (dss_cons (ds_set (i := 2) sc_bytes_written.nd rfl (by first | exact Or.inl rfl | exact Or.inr rfl) (de_call (ok_sixty_of T) (hr.mono (by decide)) rfl T.g_sixty_of T.F_sixty_of.kp T.b_sixty_of (takes_of rfl rfl rfl rfl) (da_cons (do_v 0 (pv 0)) da_nil)))
      (dss_cons (ds_if (dt_cmp op_lt o_lt (nomark _) (DE.o (de_call (ok_signs_in T) (hr.mono (by decide)) rfl T.g_signs_in T.F_signs_in.kp T.b_signs_in (takes_of rfl rfl rfl rfl) (da_cons (do_v 2 (pv 2)) da_nil))) (DE.o (de_call (ok_signs_in T) (hr.mono (by decide)) rfl T.g_signs_in T.F_signs_in.kp T.b_signs_in (takes_of rfl rfl rfl rfl) (da_cons (do_v 1 (pv 1)) da_nil)))) (dss_one (ds_frz 2 (ds_ret (de_tup (dae_cons (de_str t_sixty e_t_sixty c_t_sixty) (dae_cons (de_v 2 (pv 2)) dae_nil)))))) dss_nil)
      (dss_one (ds_frz 1 (ds_ret (de_tup (dae_cons (de_str t_sixteens e_t_sixteens c_t_sixteens) (dae_cons (de_v 1 (pv 1)) dae_nil)))))))))))
theorem ok_are_among (T : Fx K mg) : FnOk P w K mg base (L2.CX P w) 1 T.a_are_among T.fd_are_among ["text", "signs"] (spD (clK K) K 2 d_are_among) :=
  fn_ok (k := 0) T.F_are_among sc_are_among fun cdv A outer s H E hr =>
    (dss_one (ds_ret (de_b1 (cr_all rfl) o_all rfl T.z_all (by decide +kernel) (DE.o (de_comp (own := [("sign", 2)]) (g := gName 2) rfl rfl sc_are_among.nd (di_str (do_v 0 (pv 0))) (blkOk_by (own := [("sign", 2)]) (N := ["text", "signs", "sign"]) (sc := defScope s_are_among) (by decide +kernel)) (cg_name 2) (fun _ _ _ _ _ => (pg_name (i := 2) sc_are_among.nd rfl (by first | exact Or.inl rfl | exact Or.inr rfl))) (fun _ _ _ _ _ => dts_nil) (fun _ _ _ _ _ => (de_cmp op_inD o_in rfl (do_v 2 (pv 2)) (do_v 1 (pv 1)))))))))
theorem ok_is_header_name (T : Fx K mg) : FnOk P w K mg base (L2.CX P w) 2 T.a_is_header_name T.fd_is_header_name ["thing"] (spD (clK K) K 1 d_is_header_name) :=
  fn_ok (k := 1) T.F_is_header_name sc_is_header_name fun cdv A outer s H E hr =>
    (dss_cons (ds_if (dt_not (dt_val (de_isT (x := "") (y := "") (py := ⟨0, 0, 0, 0⟩) .str (pe_bltn rfl T.z_str (by decide +kernel) rfl) rfl T.z_isinstance (do_v 0 (pv 0))))) (dss_one (ds_ret de_bl)) dss_nil)
      (dss_cons (ds_set (i := 1) sc_is_header_name.nd rfl (by first | exact Or.inl rfl | exact Or.inr rfl) (de_m1 PySem.F.slot_str_split PySem.F.type_str_split mt_split o_split (do_v 0 (pv 0)) (DE.o (de_str t__b3f8 e_t__b3f8 c_t__b3f8))))
      (dss_cons (ds_if (dt_cmp op_gt o_gt (nomark _) (DE.o (de_b1 call_len o_len rfl T.z_len (by decide +kernel) (do_v 1 (pv 1)))) (DE.o (de_gi rfl T.c_MOST_WORDS))) (dss_one (ds_ret de_bl)) dss_nil)
      (dss_one (ds_ret (de_b1 (cr_all rfl) o_all rfl T.z_all (by decide +kernel) (DE.o (de_comp (own := [("word", 2)]) (g := gName 2) rfl rfl sc_is_header_name.nd (di_list (do_v 1 (pv 1))) (blkOk_by (own := [("word", 2)]) (N := ["thing", "words", "word"]) (sc := defScope s_is_header_name) (by decide +kernel)) (cg_name 2) (fun _ _ _ _ _ => (pg_name (i := 2) sc_is_header_name.nd rfl (by first | exact Or.inl rfl | exact Or.inr rfl))) (fun _ _ _ _ _ => dts_nil) (fun _ _ _ _ _ => (de_and (de_chn op_le op_le o_le o_le (DE.o de_int) (DE.o (de_b1 call_len o_len rfl T.z_len (by decide +kernel) (do_v 2 (pv 2)))) (DE.o (de_gi rfl T.c_MOST_LETTERS))) (de_one (de_call (ok_are_among T) (hr.mono (by decide)) rfl T.g_are_among T.F_are_among.kp T.b_are_among takes0 (da_cons (do_v 2 (pv 2)) (da_cons (DE.o (de_gs rfl T.c_SMALL c_t_abcdefgh_50bd)) da_nil))))))))))))))
theorem ok_is_value (T : Fx K mg) : FnOk P w K mg base (L2.CX P w) 2 T.a_is_value T.fd_is_value ["thing"] (spD (clK K) K 1 d_is_value) :=
  fn_ok (k := 1) T.F_is_value sc_is_value fun cdv A outer s H E hr =>
    (dss_cons (ds_if (DW.t (dw_or (dt_not (dt_val (de_isT (x := "") (y := "") (py := ⟨0, 0, 0, 0⟩) .str (pe_bltn rfl T.z_str (by decide +kernel) rfl) rfl T.z_isinstance (do_v 0 (pv 0))))) (dw_or1 (dt_not (dt_val (de_call (ok_are_among T) (hr.mono (by decide)) rfl T.g_are_among T.F_are_among.kp T.b_are_among (takes_of rfl rfl rfl rfl) (da_cons (do_v 0 (pv 0)) (da_cons (DE.o (de_gs rfl T.c_SIGNS c_t_01234567_b361)) da_nil)))))))) (dss_one (ds_ret de_bl)) dss_nil)
      (dss_one (ds_ret (de_or (de_cmp (op_eqD hr.units) o_eq (nomark _) (do_v 0 (pv 0)) (DE.o (de_str t__0 e_t__0 c_t__0))) (de_one (de_cmp op_ninD o_nin rfl (DE.o (de_str t__0 e_t__0 c_t__0)) (DE.o (de_m1 PySem.F.slot_str_split PySem.F.type_str_split mt_split o_split (do_v 0 (pv 0)) (DE.o (de_str t__cf45 e_t__cf45 c_t__cf45))))))))))
theorem ok_words_in (T : Fx K mg) : FnOk P w K mg base (L2.CX P w) 1 T.a_words_in T.fd_words_in ["text"] (spD (clK K) K 1 d_words_in) :=
  fn_ok (k := 0) T.F_words_in sc_words_in fun cdv A outer s H E hr =>
    (dss_one (ds_ret (de_comp (own := [("word", 1)]) (g := gName 1) rfl rfl sc_words_in.nd (di_list (DE.o (de_m1 PySem.F.slot_str_split PySem.F.type_str_split mt_split o_split (do_v 0 (pv 0)) (DE.o (de_str t__cf45 e_t__cf45 c_t__cf45))))) (blkOk_by (own := [("word", 1)]) (N := ["text", "word"]) (sc := defScope s_words_in) (by decide +kernel)) (cg_name 1) (fun _ _ _ _ _ => (pg_name (i := 1) sc_words_in.nd rfl (by first | exact Or.inl rfl | exact Or.inr rfl))) (fun _ _ _ _ _ => (dts_one (dt_cmp (op_neD hr.units) o_ne (nomark _) (do_v 1 (pv 1)) (DE.o (de_str t__0 e_t__0 c_t__0))))) (fun _ _ _ _ _ => (de_v 1 (pv 1))))))
theorem ok_folded (T : Fx K mg) : FnOk P w K mg base (L2.CX P w) 3 T.a_folded T.fd_folded ["name", "value"] (spD (clK K) K 2 d_folded) :=
  fn_ok (k := 2) T.F_folded sc_folded fun cdv A outer s H E hr =>
    (dss_cons (ds_if (dt_not (dt_val (de_call (ok_is_header_name T) (hr.mono (by decide)) rfl T.g_is_header_name T.F_is_header_name.kp T.b_is_header_name (takes_of rfl rfl rfl rfl) (da_cons (do_v 0 (pv 0)) da_nil)))) (dss_one (ds_raiseK (c := "BadName") rfl (takes_of rfl rfl rfl rfl) T.xk_BadName T.gx_BadName rfl)) dss_nil)
      (dss_cons (ds_if (dt_not (dt_val (de_call (ok_is_value T) (hr.mono (by decide)) rfl T.g_is_value T.F_is_value.kp T.b_is_value (takes_of rfl rfl rfl rfl) (da_cons (do_v 1 (pv 1)) da_nil)))) (dss_one (ds_raiseK (c := "BadValue") rfl (takes_of rfl rfl rfl rfl) T.xk_BadValue T.gx_BadValue rfl)) dss_nil)
      (dss_cons (ds_if (dt_val (de_b1 (cr_any rfl) o_any rfl T.z_any (by decide +kernel) (DE.o (de_comp (own := [("word", 4)]) (g := gName 4) rfl rfl sc_folded.nd (di_list (DE.o (de_call (ok_words_in T) (hr.mono (by decide)) rfl T.g_words_in T.F_words_in.kp T.b_words_in (takes_of rfl rfl rfl rfl) (da_cons (do_v 1 (pv 1)) da_nil)))) (blkOk_by (own := [("word", 4)]) (N := ["name", "value", "row", "rows", "word"]) (sc := defScope s_folded) (by decide +kernel)) (cg_name 4) (fun _ _ _ _ _ => (pg_name (i := 4) sc_folded.nd rfl (by first | exact Or.inl rfl | exact Or.inr rfl))) (fun _ _ _ _ _ => dts_nil) (fun _ _ _ _ _ => (de_cmp op_ge o_ge (nomark _) (DE.o (de_b1 call_len o_len rfl T.z_len (by decide +kernel) (do_v 4 (pv 4)))) (DE.o (de_gi rfl T.c_MOST_ROW)))))))) (dss_one (ds_raiseK (c := "TooLong") rfl (takes_of rfl rfl rfl rfl) T.xk_TooLong T.gx_TooLong rfl)) dss_nil)
      (dss_cons (ds_set (i := 2) sc_folded.nd rfl (by first | exact Or.inl rfl | exact Or.inr rfl) (de_bin op_addD o_add (DE.o (de_m1 PySem.F.slot_str_join PySem.F.type_str_join mt_join o_join (DE.o (de_str t__b3f8 e_t__b3f8 c_t__b3f8)) (DE.o (de_comp (own := [("word", 4)]) (g := gName 4) rfl rfl sc_folded.nd (di_list (DE.o (de_m1 PySem.F.slot_str_split PySem.F.type_str_split mt_split o_split (do_v 0 (pv 0)) (DE.o (de_str t__b3f8 e_t__b3f8 c_t__b3f8))))) (blkOk_by (own := [("word", 4)]) (N := ["name", "value", "row", "rows", "word"]) (sc := defScope s_folded) (by decide +kernel)) (cg_name 4) (fun _ _ _ _ _ => (pg_name (i := 4) sc_folded.nd rfl (by first | exact Or.inl rfl | exact Or.inr rfl))) (fun _ _ _ _ _ => dts_nil) (fun _ _ _ _ _ => (de_bin op_addD o_add (DE.o (de_m0 PySem.F.slot_str_upper PySem.F.type_str_upper mt_upper o_upper (do_ix (fun _ _ => rfl) (do_v 4 (pv 4)) (DE.o de_int)))) (DE.o (de_slLo (do_v 4 (pv 4)) (DE.o de_int))))))))) (DE.o (de_str t__363f e_t__363f c_t__363f))))
      (dss_cons (ds_set (i := 3) sc_folded.nd rfl (by first | exact Or.inl rfl | exact Or.inr rfl) (de_lst dae_nil))
      (dss_cons (ds_for (passes_of rfl) rfl (di_listS (DE.o (de_frz (de_call (ok_words_in T) (hr.mono (by decide)) rfl T.g_words_in T.F_words_in.kp T.b_words_in (takes_of rfl rfl rfl rfl) (da_cons (do_v 1 (pv 1)) da_nil))))) (pg_name (i := 4) sc_folded.nd rfl (by first | exact Or.inl rfl | exact Or.inr rfl)) (sg_name 4) (dss_cons (ds_if (dt_cmp op_gt o_gt (nomark _) (DE.o (de_bin op_addD o_add (DE.o (de_bin op_addD o_add (DE.o (de_b1 call_len o_len rfl T.z_len (by decide +kernel) (do_v 2 (pv 2)))) (DE.o de_int))) (DE.o (de_b1 call_len o_len rfl T.z_len (by decide +kernel) (do_v 4 (pv 4)))))) (DE.o (de_gi rfl T.c_MOST_ROW))) (dss_cons (ds_app 3 (pv 3) (de_v 2 (pv 2)))
      (dss_one (ds_set (i := 2) sc_folded.nd rfl (by first | exact Or.inl rfl | exact Or.inr rfl) (de_str t__0 e_t__0 c_t__0)))) dss_nil)
      (dss_one (ds_set (i := 2) sc_folded.nd rfl (by first | exact Or.inl rfl | exact Or.inr rfl) (de_bin op_addD o_add (DE.o (de_bin op_addD o_add (do_v 2 (pv 2)) (DE.o (de_str t__cf45 e_t__cf45 c_t__cf45)))) (do_v 4 (pv 4)))))))
      (dss_one (ds_ret (de_bin op_addD o_add (do_v 3 (pv 3)) (DE.o (de_lst (dae_cons (de_v 2 (pv 2)) dae_nil))))))))))))
theorem okg_rows_written (T : Fx K mg) : ∀ n : Nat, (FnOk P w K mg base (L2.CX P w) (6 + n) T.a_rows_written T.fd_rows_written ["piece"] (spD (clK K) K 1 (d_rows_written n))) ∧ (FnOk P w K mg base (L2.CX P w) (6 + n) T.a_body_written T.fd_body_written ["piece"] (spD (clK K) K 1 (d_body_written n)))
  | 0 => ⟨fn_ok (k := 5) T.F_rows_written sc_rows_written fun cdv A outer s H E hr => dss_no, fn_ok (k := 5) T.F_body_written sc_body_written fun cdv A outer s H E hr => dss_no⟩
  | n + 1 => by
    obtain ⟨okr_rows_written, okr_body_written⟩ := okg_rows_written T n
    exact ⟨(fn_ok (k := 6 + n) T.F_rows_written sc_rows_written fun cdv A outer s H E hr =>
    (dss_cons (ds_set (i := 1) sc_rows_written.nd rfl (by first | exact Or.inl rfl | exact Or.inr rfl) (de_lst dae_nil))
      (dss_cons (ds_for (passes_of rfl) rfl (di_listS (DE.o (de_frz (de_fld (c := "Piece") (n := "headers") rfl T.cl_Piece T.na_Piece_headers (do_v 0 (pv 0)))))) (pg_name (i := 2) sc_rows_written.nd rfl (by first | exact Or.inl rfl | exact Or.inr rfl)) (sg_name 2) (dss_one (ds_ext 1 (pv 1) (de_call (ok_folded T) (hr.mono (by omega)) rfl T.g_folded T.F_folded.kp T.b_folded (takes_of rfl rfl rfl rfl) (da_cons (do_fld (c := "Header") (n := "name") rfl T.cl_Header T.na_Header_name (do_v 2 (pv 2))) (da_cons (DE.o (de_meth0 (c := "Header") (m := "value") rfl T.cl_Header T.m_Header_value (ok_Header_value T) (hr.mono (by omega)) T.b_Header_value (takes_of rfl rfl rfl rfl) (do_v 2 (pv 2)))) da_nil))))))
      (dss_cons (ds_bind (de_frz (de_call okr_body_written (hr.mono (by omega)) rfl T.g_body_written T.F_body_written.kp T.b_body_written (takes_of rfl rfl rfl rfl) (da_cons (do_v 0 (pv 0)) da_nil))) (pg_tup rfl (pgs_cons (pg_name (i := 3) sc_rows_written.nd rfl (by first | exact Or.inl rfl | exact Or.inr rfl)) (pgs_cons (pg_name (i := 4) sc_rows_written.nd rfl (by first | exact Or.inl rfl | exact Or.inr rfl)) pgs_nil))) (sg_tup [3, 4]))
      (dss_one (ds_ret (de_bin op_addD o_add (DE.o (de_bin op_addD o_add (DE.o (de_bin op_addD o_add (do_v 1 (pv 1)) (DE.o (de_call (ok_folded T) (hr.mono (by omega)) rfl T.g_folded T.F_folded.kp T.b_folded (takes_of rfl rfl rfl rfl) (da_cons (DE.o (de_str t_body e_t_body c_t_body)) (da_cons (do_v 3 (pv 3)) da_nil)))))) (DE.o (de_lst (dae_cons (de_str t__0 e_t__0 c_t__0) dae_nil))))) (do_v 4 (pv 4))))))))), (fn_ok (k := 6 + n) T.F_body_written sc_body_written fun cdv A outer s H E hr =>
    (dss_cons (ds_if (dt_isN (do_fld (c := "Piece") (n := "pieces") rfl T.cl_Piece T.na_Piece_pieces (do_v 0 (pv 0)))) (dss_one (ds_ret (de_call (ok_bytes_written T) (hr.mono (by omega)) rfl T.g_bytes_written T.F_bytes_written.kp T.b_bytes_written (takes_of rfl rfl rfl rfl) (da_cons (do_fld (c := "Piece") (n := "row") rfl T.cl_Piece T.na_Piece_row (do_v 0 (pv 0))) da_nil)))) dss_nil)
      (dss_cons (ds_setLc (i := 1) (own := [("one", 6)]) (g := gName 6) rfl rfl sc_body_written.nd rfl rfl (sw_true rfl rfl rfl (by decide +kernel)) (di_list (do_fld (c := "Piece") (n := "pieces") rfl T.cl_Piece T.na_Piece_pieces (do_v 0 (pv 0)))) (blkOk_by (own := [("one", 6)]) (N := ["piece", "groups", "whole", "group", "border", "rows", "one"]) (sc := defScope s_body_written) (by decide +kernel)) (cg_name 6) (fun _ _ _ _ _ => (pg_name (i := 6) sc_body_written.nd rfl (by first | exact Or.inl rfl | exact Or.inr rfl))) (fun _ _ _ _ _ => dts_nil) (fun _ _ _ _ _ => (de_frz (de_call okr_rows_written (hr.mono (by omega)) rfl T.g_rows_written T.F_rows_written.kp T.b_rows_written takes0 (da_cons (do_v 6 (pv 6)) da_nil)))))
      (dss_cons (ds_frz 1 (ds_set (i := 2) sc_body_written.nd rfl (by first | exact Or.inl rfl | exact Or.inr rfl) (de_lst dae_nil)))
      (dss_cons (ds_frz 1 (ds_for (passes_of rfl) rfl (di_listS (do_v 1 (pv 1))) (pg_name (i := 3) sc_body_written.nd rfl (by first | exact Or.inl rfl | exact Or.inr rfl)) (sg_name 3) (dss_one (ds_ext 2 (pv 2) (de_v 3 (pv 3))))))
      (dss_cons (ds_set (i := 4) sc_body_written.nd rfl (by first | exact Or.inl rfl | exact Or.inr rfl) (de_call (ok_border_of T) (hr.mono (by omega)) rfl T.g_border_of T.F_border_of.kp T.b_border_of (takes_of rfl rfl rfl rfl) (da_cons (do_v 2 (pv 2)) da_nil)))
      (dss_cons (ds_set (i := 5) sc_body_written.nd rfl (by first | exact Or.inl rfl | exact Or.inr rfl) (de_lst dae_nil))
      (dss_cons (ds_frz 1 (ds_for (passes_of rfl) rfl (di_listS (do_v 1 (pv 1))) (pg_name (i := 3) sc_body_written.nd rfl (by first | exact Or.inl rfl | exact Or.inr rfl)) (sg_name 3) (dss_cons (ds_app 5 (pv 5) (de_bin op_addD o_add (DE.o (de_str t__1465 e_t__1465 c_t__1465)) (do_v 4 (pv 4))))
      (dss_one (ds_ext 5 (pv 5) (de_v 3 (pv 3)))))))
      (dss_one (ds_frz 5 (ds_ret (de_tup (dae_cons (de_bin op_addD o_add (DE.o (de_str t_pieces_f221 e_t_pieces_f221 c_t_pieces_f221)) (do_v 4 (pv 4))) (dae_cons (de_bin op_addD o_add (do_v 5 (pv 5)) (DE.o (de_lst (dae_cons (de_bin op_addD o_add (DE.o (de_bin op_addD o_add (DE.o (de_str t__1465 e_t__1465 c_t__1465)) (do_v 4 (pv 4)))) (DE.o (de_str t__1465 e_t__1465 c_t__1465))) dae_nil)))) dae_nil))))))))))))))⟩
theorem ok_rows_written (T : Fx K mg) (n : Nat) : FnOk P w K mg base (L2.CX P w) (6 + n) T.a_rows_written T.fd_rows_written ["piece"] (spD (clK K) K 1 (d_rows_written n)) := (okg_rows_written T n).1
theorem ok_piece_rows (T : Fx K mg) : FnOk P w K mg base (L2.CX P w) 27 T.a_piece_rows T.fd_piece_rows ["piece"] (spD (clK K) K 1 d_piece_rows) :=
  fn_ok (k := 26) T.F_piece_rows sc_piece_rows fun cdv A outer s H E hr =>
    (dss_cons (ds_drop (de_call (ok_need_piece T) (hr.mono (by decide)) rfl T.g_need_piece T.F_need_piece.kp T.b_need_piece (takes_of rfl rfl rfl rfl) (da_cons (do_v 0 (pv 0)) da_nil)))
      (dss_one (ds_ret (de_call (ok_rows_written T 20) (hr.mono (by decide)) rfl T.g_rows_written T.F_rows_written.kp T.b_rows_written (takes_of rfl rfl rfl rfl) (da_cons (do_v 0 (pv 0)) da_nil)))))
theorem ok__law_word_of (T : Fx K mg) : FnOk P w K mg base (L2.CX P w) 28 T.a__law_word_of T.fd__law_word_of ["_law_thing"] (spD (clK K) K 1 d__law_word_of) :=
  fn_ok (k := 27) T.F__law_word_of sc__law_word_of fun cdv A outer s H E hr =>
    (dss_cons (ds_set (i := 1) sc__law_word_of.nd rfl (by first | exact Or.inl rfl | exact Or.inr rfl) de_non)
      (dss_cons (ds_tryK (i := 2) (j := 1) rfl rfl rfl sc__law_word_of.nd rfl rfl rfl rfl (by decide) ⟨rfl, by decide, Or.inl T.gx_HouseError⟩ (takes_of rfl rfl rfl rfl) T.em_HouseError (fun W pn xe tk ps => (dss_one (ds_drop (de_call (ok_piece_rows T) (hr.mono (by decide)) rfl T.g_piece_rows T.F_piece_rows.kp T.b_piece_rows tk (da_cons (do_v 0 (pv 0)) da_nil))))) (by first | exact Or.inl rfl | exact Or.inr rfl))
      (dss_cons (ds_if (dt_isN (do_v 1 (pv 1))) (dss_one (ds_ret (de_lst dae_nil))) dss_nil)
      (dss_cons (ds_set (i := 3) sc__law_word_of.nd rfl (by first | exact Or.inl rfl | exact Or.inr rfl) (de_lst (dae_cons (de_isXK T.ki_BadPiece T.ke_BadPiece (by decide) rfl T.gx_BadPiece rfl T.z_isinstance (do_v 1 (pv 1))) (dae_cons (de_isXK T.ki_BadBody T.ke_BadBody (by decide) rfl T.gx_BadBody rfl T.z_isinstance (do_v 1 (pv 1))) (dae_cons (de_isXK T.ki_BadBytes T.ke_BadBytes (by decide) rfl T.gx_BadBytes rfl T.z_isinstance (do_v 1 (pv 1))) dae_nil)))))
      (dss_cons (ds_set (i := 3) sc__law_word_of.nd rfl (by first | exact Or.inl rfl | exact Or.inr rfl) (de_bin op_addD o_add (do_v 3 (pv 3)) (DE.o (de_lst (dae_cons (de_isXK T.ki_BadHeader T.ke_BadHeader (by decide) rfl T.gx_BadHeader rfl T.z_isinstance (do_v 1 (pv 1))) (dae_cons (de_isXK T.ki_BadName T.ke_BadName (by decide) rfl T.gx_BadName rfl T.z_isinstance (do_v 1 (pv 1))) (dae_cons (de_isXK T.ki_BadRow T.ke_BadRow (by decide) rfl T.gx_BadRow rfl T.z_isinstance (do_v 1 (pv 1))) dae_nil)))))))
      (dss_one (ds_ret (de_bin op_addD o_add (do_v 3 (pv 3)) (DE.o (de_lst (dae_cons (de_isXK T.ki_BadValue T.ke_BadValue (by decide) rfl T.gx_BadValue rfl T.z_isinstance (do_v 1 (pv 1))) (dae_cons (de_isXK T.ki_TooLong T.ke_TooLong (by decide) rfl T.gx_TooLong rfl T.z_isinstance (do_v 1 (pv 1))) (dae_cons (de_isXV T.ki_ValueError T.ke_ValueError rfl T.z_ValueError rfl T.z_isinstance (do_v 1 (pv 1))) dae_nil)))))))))))))
theorem ok__law_refused (T : Fx K mg) : FnOk P w K mg base (L2.CX P w) 29 T.a__law_refused T.fd__law_refused ["_law_n", "_law_piece"] (spD (clK K) K 2 d__law_refused) :=
  fn_ok (k := 28) T.F__law_refused sc__law_refused fun cdv A outer s H E hr =>
    (dss_cons (ds_set (i := 2) sc__law_refused.nd rfl (by first | exact Or.inl rfl | exact Or.inr rfl) (de_frz (de_lst (dae_cons (de_make (c := "Header") T.mk_Header (ok_Header___init__ T) (hr.mono (by decide)) rfl T.gx_Header T.b_Header___init__ (da_cons (DE.o (de_str t_b e_t_b c_t_b)) (da_cons (DE.o (de_str t_c e_t_c c_t_c)) da_nil))) dae_nil))))
      (dss_cons (ds_set (i := 3) sc__law_refused.nd rfl (by first | exact Or.inl rfl | exact Or.inr rfl) (de_frz (de_frz (de_lst (dae_cons de_non (dae_cons de_int (dae_cons (de_str t_row e_t_row c_t_row) (dae_cons (de_lst dae_nil) (dae_cons de_dnew (dae_cons de_bl (dae_cons (de_makeD (c := "Piece") [.non, .non] T.mk_Piece (ok_Piece___init__ T) (hr.mono (by decide)) rfl T.gx_Piece T.b2_Piece___init__.2 T.b2_Piece___init__.1 (fun _ _ => (.cons .non (.cons .non .nil))) (da_cons (do_v 2 (pv 2)) da_nil)) (dae_cons (de_make (c := "Piece") T.mk_Piece (ok_Piece___init__ T) (hr.mono (by decide)) rfl T.gx_Piece T.b_Piece___init__ (da_cons (do_v 2 (pv 2)) (da_cons (DE.o (de_frz (de_lst (dae_cons de_int dae_nil)))) (da_cons (DE.o (de_frz (de_lst (dae_cons (de_v 1 (pv 1)) dae_nil)))) da_nil)))) (dae_cons (de_make (c := "Piece") T.mk_Piece (ok_Piece___init__ T) (hr.mono (by decide)) rfl T.gx_Piece T.b_Piece___init__ (da_cons (do_v 2 (pv 2)) (da_cons (DE.o de_non) (da_cons (DE.o (de_frz (de_lst dae_nil))) da_nil)))) dae_nil)))))))))))))
      (dss_cons (ds_set (i := 3) sc__law_refused.nd rfl (by first | exact Or.inl rfl | exact Or.inr rfl) (de_frz (de_bin op_addD o_add (do_v 3 (pv 3)) (DE.o (de_frz (de_frz (de_lst (dae_cons (de_makeD (c := "Piece") [.non] T.mk_Piece (ok_Piece___init__ T) (hr.mono (by decide)) rfl T.gx_Piece T.b1_Piece___init__.2 T.b1_Piece___init__.1 (fun _ _ => (.cons .non .nil)) (da_cons (do_v 2 (pv 2)) (da_cons (DE.o (de_frz (de_lst (dae_cons de_int dae_nil)))) da_nil))) (dae_cons (de_makeD (c := "Piece") [.non] T.mk_Piece (ok_Piece___init__ T) (hr.mono (by decide)) rfl T.gx_Piece T.b1_Piece___init__.2 T.b1_Piece___init__.1 (fun _ _ => (.cons .non .nil)) (da_cons (do_v 2 (pv 2)) (da_cons (DE.o (de_frz (de_lst (dae_cons (de_un un_neg o_neg (DE.o de_int)) dae_nil)))) da_nil))) (dae_cons (de_makeD (c := "Piece") [.non] T.mk_Piece (ok_Piece___init__ T) (hr.mono (by decide)) rfl T.gx_Piece T.b1_Piece___init__.2 T.b1_Piece___init__.1 (fun _ _ => (.cons .non .nil)) (da_cons (do_v 2 (pv 2)) (da_cons (DE.o (de_frz (de_lst (dae_cons de_bl dae_nil)))) da_nil))) (dae_cons (de_makeD (c := "Piece") [.non] T.mk_Piece (ok_Piece___init__ T) (hr.mono (by decide)) rfl T.gx_Piece T.b1_Piece___init__.2 T.b1_Piece___init__.1 (fun _ _ => (.cons .non .nil)) (da_cons (do_v 2 (pv 2)) (da_cons (DE.o (de_frz (de_lst (dae_cons (de_str t_b e_t_b c_t_b) dae_nil)))) da_nil))) (dae_cons (de_makeD (c := "Piece") [.non] T.mk_Piece (ok_Piece___init__ T) (hr.mono (by decide)) rfl T.gx_Piece T.b1_Piece___init__.2 T.b1_Piece___init__.1 (fun _ _ => (.cons .non .nil)) (da_cons (do_v 2 (pv 2)) (da_cons (DE.o (de_frz (de_lst (dae_cons de_non dae_nil)))) da_nil))) dae_nil))))))))))))
      (dss_cons (ds_set (i := 3) sc__law_refused.nd rfl (by first | exact Or.inl rfl | exact Or.inr rfl) (de_frz (de_bin op_addD o_add (do_v 3 (pv 3)) (DE.o (de_frz (de_frz (de_lst (dae_cons (de_makeD (c := "Piece") [.non] T.mk_Piece (ok_Piece___init__ T) (hr.mono (by decide)) rfl T.gx_Piece T.b1_Piece___init__.2 T.b1_Piece___init__.1 (fun _ _ => (.cons .non .nil)) (da_cons (DE.o (de_frz (de_bin op_addD o_add (do_v 2 (pv 2)) (DE.o (de_lst (dae_cons de_int dae_nil)))))) (da_cons (DE.o (de_frz (de_lst (dae_cons de_int dae_nil)))) da_nil))) (dae_cons (de_makeD (c := "Piece") [.non] T.mk_Piece (ok_Piece___init__ T) (hr.mono (by decide)) rfl T.gx_Piece T.b1_Piece___init__.2 T.b1_Piece___init__.1 (fun _ _ => (.cons .non .nil)) (da_cons (DE.o (de_frz (de_lst (dae_cons (de_str t_b e_t_b c_t_b) dae_nil)))) (da_cons (DE.o (de_frz (de_lst (dae_cons de_int dae_nil)))) da_nil))) (dae_cons (de_makeD (c := "Piece") [.non] T.mk_Piece (ok_Piece___init__ T) (hr.mono (by decide)) rfl T.gx_Piece T.b1_Piece___init__.2 T.b1_Piece___init__.1 (fun _ _ => (.cons .non .nil)) (da_cons (DE.o (de_frz (de_lst (dae_cons (de_make (c := "Header") T.mk_Header (ok_Header___init__ T) (hr.mono (by decide)) rfl T.gx_Header T.b_Header___init__ (da_cons (DE.o (de_str t_body e_t_body c_t_body)) (da_cons (DE.o (de_str t_plain e_t_plain c_t_plain)) da_nil))) dae_nil)))) (da_cons (DE.o (de_frz (de_lst (dae_cons de_int dae_nil)))) da_nil))) dae_nil))))))))))
      (dss_cons (ds_set (i := 3) sc__law_refused.nd rfl (by first | exact Or.inl rfl | exact Or.inr rfl) (de_frz (de_bin op_addD o_add (do_v 3 (pv 3)) (DE.o (de_frz (de_frz (de_lst (dae_cons (de_make (c := "Piece") T.mk_Piece (ok_Piece___init__ T) (hr.mono (by decide)) rfl T.gx_Piece T.b_Piece___init__ (da_cons (do_v 2 (pv 2)) (da_cons (DE.o de_non) (da_cons (DE.o (de_frz (de_bin op_mulD o_mul (DE.o (de_frz (de_lst (dae_cons (de_makeD (c := "Piece") [.non] T.mk_Piece (ok_Piece___init__ T) (hr.mono (by decide)) rfl T.gx_Piece T.b1_Piece___init__.2 T.b1_Piece___init__.1 (fun _ _ => (.cons .non .nil)) (da_cons (DE.o (de_frz (de_lst dae_nil))) (da_cons (DE.o (de_frz (de_lst (dae_cons de_int dae_nil)))) da_nil))) dae_nil)))) (DE.o de_int)))) da_nil)))) (dae_cons (de_make (c := "Piece") T.mk_Piece (ok_Piece___init__ T) (hr.mono (by decide)) rfl T.gx_Piece T.b_Piece___init__ (da_cons (do_v 2 (pv 2)) (da_cons (DE.o de_non) (da_cons (DE.o (de_frz (de_lst (dae_cons de_non dae_nil)))) da_nil)))) (dae_cons (de_make (c := "Piece") T.mk_Piece (ok_Piece___init__ T) (hr.mono (by decide)) rfl T.gx_Piece T.b_Piece___init__ (da_cons (do_v 2 (pv 2)) (da_cons (DE.o de_non) (da_cons (DE.o (de_frz (de_lst (dae_cons (de_v 2 (pv 2)) dae_nil)))) da_nil)))) dae_nil))))))))))
      (dss_cons (ds_set (i := 3) sc__law_refused.nd rfl (by first | exact Or.inl rfl | exact Or.inr rfl) (de_frz (de_bin op_addD o_add (do_v 3 (pv 3)) (DE.o (de_frz (de_frz (de_lst (dae_cons (de_call (ok__law_deep T) (hr.mono (by decide)) rfl T.g__law_deep T.F__law_deep.kp T.b__law_deep (takes_of rfl rfl rfl rfl) (da_cons (DE.o de_int) (da_cons (DE.o (de_frz (de_makeD (c := "Piece") [.non] T.mk_Piece (ok_Piece___init__ T) (hr.mono (by decide)) rfl T.gx_Piece T.b1_Piece___init__.2 T.b1_Piece___init__.1 (fun _ _ => (.cons .non .nil)) (da_cons (do_v 2 (pv 2)) (da_cons (DE.o (de_frz (de_lst (dae_cons de_int dae_nil)))) da_nil))))) da_nil))) (dae_cons (de_makeD (c := "Piece") [.non] T.mk_Piece (ok_Piece___init__ T) (hr.mono (by decide)) rfl T.gx_Piece T.b1_Piece___init__.2 T.b1_Piece___init__.1 (fun _ _ => (.cons .non .nil)) (da_cons (do_v 2 (pv 2)) (da_cons (DE.o (de_frz (de_lst (dae_cons de_int (dae_cons (de_bin op_pow o_pow (DE.o de_int) (DE.o de_int)) dae_nil))))) da_nil))) (dae_cons (de_makeD (c := "Piece") [.non] T.mk_Piece (ok_Piece___init__ T) (hr.mono (by decide)) rfl T.gx_Piece T.b1_Piece___init__.2 T.b1_Piece___init__.1 (fun _ _ => (.cons .non .nil)) (da_cons (DE.o de_non) (da_cons (DE.o (de_frz (de_lst (dae_cons de_int dae_nil)))) da_nil))) dae_nil))))))))))
      (dss_cons (ds_set (i := 3) sc__law_refused.nd rfl (by first | exact Or.inl rfl | exact Or.inr rfl) (de_frz (de_bin op_addD o_add (do_v 3 (pv 3)) (DE.o (de_frz (de_frz (de_lst (dae_cons (de_make (c := "Piece") T.mk_Piece (ok_Piece___init__ T) (hr.mono (by decide)) rfl T.gx_Piece T.b_Piece___init__ (da_cons (DE.o (de_frz (de_lst (dae_cons de_non dae_nil)))) (da_cons (DE.o de_non) (da_cons (DE.o (de_frz (de_lst (dae_cons (de_makeD (c := "Piece") [.non] T.mk_Piece (ok_Piece___init__ T) (hr.mono (by decide)) rfl T.gx_Piece T.b1_Piece___init__.2 T.b1_Piece___init__.1 (fun _ _ => (.cons .non .nil)) (da_cons (DE.o (de_frz (de_lst dae_nil))) (da_cons (DE.o (de_frz (de_lst (dae_cons de_int dae_nil)))) da_nil))) dae_nil)))) da_nil)))) (dae_cons (de_makeD (c := "Piece") [.non] T.mk_Piece (ok_Piece___init__ T) (hr.mono (by decide)) rfl T.gx_Piece T.b1_Piece___init__.2 T.b1_Piece___init__.1 (fun _ _ => (.cons .non .nil)) (da_cons (do_v 2 (pv 2)) (da_cons (DE.o (de_str t_row e_t_row c_t_row)) da_nil))) (dae_cons (de_make (c := "Piece") T.mk_Piece (ok_Piece___init__ T) (hr.mono (by decide)) rfl T.gx_Piece T.b_Piece___init__ (da_cons (do_v 2 (pv 2)) (da_cons (DE.o de_non) (da_cons (do_v 1 (pv 1)) da_nil)))) dae_nil))))))))))
      (dss_cons (ds_set (i := 4) sc__law_refused.nd rfl (by first | exact Or.inl rfl | exact Or.inr rfl) (de_bin op_addD o_add (DE.o (de_bin op_addD o_add (DE.o (de_lst (dae_cons de_bl dae_nil))) (DE.o (de_bin op_mulD o_mul (DE.o (de_lst (dae_cons de_bl dae_nil))) (DE.o de_int))))) (DE.o (de_lst (dae_cons de_bl dae_nil)))))
      (dss_cons (ds_set (i := 5) sc__law_refused.nd rfl (by first | exact Or.inl rfl | exact Or.inr rfl) (de_frz (de_lst (dae_cons (de_make (c := "Header") T.mk_Header (ok_Header___init__ T) (hr.mono (by decide)) rfl T.gx_Header T.b_Header___init__ (da_cons (DE.o (de_str t_x e_t_x c_t_x)) (da_cons (DE.o (de_frz (de_bin op_mulD o_mul (DE.o (de_str t_b e_t_b c_t_b)) (DE.o (de_bin op_addD o_add (DE.o de_int) (DE.o (de_bin op_mod o_mod (do_v 0 (pv 0)) (DE.o de_int)))))))) da_nil))) dae_nil))))
      (dss_cons (ds_set (i := 6) sc__law_refused.nd rfl (by first | exact Or.inl rfl | exact Or.inr rfl) (de_frz (de_make (c := "Piece") T.mk_Piece (ok_Piece___init__ T) (hr.mono (by decide)) rfl T.gx_Piece T.b_Piece___init__ (da_cons (do_v 5 (pv 5)) (da_cons (DE.o de_non) (da_cons (DE.o (de_frz (de_lst (dae_cons (de_makeD (c := "Piece") [.non] T.mk_Piece (ok_Piece___init__ T) (hr.mono (by decide)) rfl T.gx_Piece T.b1_Piece___init__.2 T.b1_Piece___init__.1 (fun _ _ => (.cons .non .nil)) (da_cons (DE.o (de_frz (de_lst dae_nil))) (da_cons (DE.o (de_frz (de_lst (dae_cons de_int dae_nil)))) da_nil))) (dae_cons (de_ix (fun _ _ => rfl) (do_v 3 (pv 3)) (DE.o (de_bin op_mod o_mod (DE.o (de_bin op_fdiv o_div (do_v 0 (pv 0)) (DE.o de_int))) (DE.o de_int)))) dae_nil))))) da_nil))))))
      (dss_cons (ds_for (passes_of rfl) rfl (di_listS (DE.o (de_frz (de_lst (dae_cons (de_ix (fun _ _ => rfl) (do_v 3 (pv 3)) (DE.o (de_bin op_mod o_mod (do_v 0 (pv 0)) (DE.o de_int)))) (dae_cons (de_call (ok__law_deep T) (hr.mono (by decide)) rfl T.g__law_deep T.F__law_deep.kp T.b__law_deep (takes_of rfl rfl rfl rfl) (da_cons (DE.o (de_bin op_addD o_add (DE.o de_int) (DE.o (de_bin op_mod o_mod (DE.o (de_bin op_fdiv o_div (do_v 0 (pv 0)) (DE.o de_int))) (DE.o de_int))))) (da_cons (do_ix (fun _ _ => rfl) (do_v 3 (pv 3)) (DE.o (de_bin op_mod o_mod (DE.o (de_bin op_fdiv o_div (do_v 0 (pv 0)) (DE.o de_int))) (DE.o de_int)))) da_nil))) (dae_cons (de_v 6 (pv 6)) dae_nil))))))) (pg_name (i := 7) sc__law_refused.nd rfl (by first | exact Or.inl rfl | exact Or.inr rfl)) (sg_name 7) (dss_one (ds_if (dt_cmp (op_neD hr.units) o_ne (nomark _) (DE.o (de_call (ok__law_word_of T) (hr.mono (by decide)) rfl T.g__law_word_of T.F__law_word_of.kp T.b__law_word_of (takes_of rfl rfl rfl rfl) (da_cons (do_v 7 (pv 7)) da_nil))) (do_v 4 (pv 4))) (dss_one (ds_ret de_bl)) dss_nil)))
      (dss_one (ds_ret (de_cmp (op_eqD hr.units) o_eq (nomark _) (DE.o (de_call (ok__law_word_of T) (hr.mono (by decide)) rfl T.g__law_word_of T.F__law_word_of.kp T.b__law_word_of (takes_of rfl rfl rfl rfl) (da_cons (DE.o (de_call (ok__law_deep T) (hr.mono (by decide)) rfl T.g__law_deep T.F__law_deep.kp T.b__law_deep (takes_of rfl rfl rfl rfl) (da_cons (DE.o de_int) (da_cons (DE.o (de_frz (de_makeD (c := "Piece") [.non] T.mk_Piece (ok_Piece___init__ T) (hr.mono (by decide)) rfl T.gx_Piece T.b1_Piece___init__.2 T.b1_Piece___init__.1 (fun _ _ => (.cons .non .nil)) (da_cons (do_v 2 (pv 2)) (da_cons (DE.o (de_frz (de_lst (dae_cons de_int dae_nil)))) da_nil))))) da_nil)))) da_nil))) (DE.o (de_lst dae_nil))))))))))))))))
theorem ok_law (T : Fx K mg) : FnOk P w K mg base (L2.CX P w) 30 T.a_law T.fd_law ["_law_script"] (spD (clK K) K 1 d_law) :=
  fn_ok (k := 29) T.F_law sc_law fun cdv A outer s H E hr =>
    (dss_cons (ds_set (i := 1) sc_law.nd rfl (by first | exact Or.inl rfl | exact Or.inr rfl) (de_frz (de_call (ok__law_drawn T) (hr.mono (by decide)) rfl T.g__law_drawn T.F__law_drawn.kp T.b__law_drawn (takes_of rfl rfl rfl rfl) (da_cons (do_v 0 (pv 0)) da_nil))))
      (dss_cons (ds_set (i := 2) sc_law.nd rfl (by first | exact Or.inl rfl | exact Or.inr rfl) (de_call (ok__law_made T 20) (hr.mono (by decide)) rfl T.g__law_made T.F__law_made.kp T.b__law_made (takes_of rfl rfl rfl rfl) (da_cons (do_v 1 (pv 1)) da_nil)))
      (dss_cons (ds_set (i := 3) sc_law.nd rfl (by first | exact Or.inl rfl | exact Or.inr rfl) (de_call (ok__law_due T 20) (hr.mono (by decide)) rfl T.g__law_due T.F__law_due.kp T.b__law_due (takes_of rfl rfl rfl rfl) (da_cons (do_v 1 (pv 1)) da_nil)))
      (dss_cons (ds_for (passes_of rfl) rfl (di_range1 rfl T.z_range (DE.o de_int)) (pg_name (i := 4) sc_law.nd rfl (by first | exact Or.inl rfl | exact Or.inr rfl)) (sg_name 4) (dss_cons (ds_set (i := 7) sc_law.nd rfl (by first | exact Or.inl rfl | exact Or.inr rfl) (de_call (ok_piece_rows T) (hr.mono (by decide)) rfl T.g_piece_rows T.F_piece_rows.kp T.b_piece_rows (takes_of rfl rfl rfl rfl) (da_cons (do_v 2 (pv 2)) da_nil)))
      (dss_cons (ds_if (DW.t (dw_or (dt_not (dt_val (de_isT (x := "") (y := "") (py := ⟨0, 0, 0, 0⟩) .list (pe_bltn rfl T.z_list (by decide +kernel) rfl) rfl T.z_isinstance (do_v 7 (pv 7))))) (dw_or1 (dt_cmp (op_neD hr.units) o_ne (nomark _) (do_v 7 (pv 7)) (do_v 3 (pv 3)))))) (dss_one (ds_ret de_bl)) dss_nil)
      (dss_one (ds_dropM (dm_clear 7 (dp_v (pv 7))))))))
      (dss_cons (ds_set (i := 5) sc_law.nd rfl (by first | exact Or.inl rfl | exact Or.inr rfl) (de_b1 (cr_sum rfl) o_sum rfl T.z_sum (by decide +kernel) (DE.o (de_comp (own := [("_law_k", 6), ("_law_row_here", 8)]) (g := gTup K 2 (gCons (gName 6) (gCons (gName 8) gNil))) rfl rfl sc_law.nd (di_enum rfl T.z_enumerate (do_v 3 (pv 3))) (blkOk_by (own := [("_law_k", 6), ("_law_row_here", 8)]) (N := ["_law_script", "_law_told", "_law_piece", "_law_due_here", "_law_turn", "_law_number", "_law_k", "_law_found", "_law_row_here"]) (sc := defScope s_law) (by decide +kernel)) (cg_tup2 6 8) (fun _ _ _ _ _ => (pg_tup rfl (pgs_cons (pg_name (i := 6) sc_law.nd rfl (by first | exact Or.inl rfl | exact Or.inr rfl)) (pgs_cons (pg_name (i := 8) sc_law.nd rfl (by first | exact Or.inl rfl | exact Or.inr rfl)) pgs_nil)))) (fun _ _ _ _ _ => dts_nil) (fun _ _ _ _ _ => (de_bin op_mulD o_mul (DE.o (de_b1 call_len o_len rfl T.z_len (by decide +kernel) (do_v 8 (pv 8)))) (DE.o (de_bin op_addD o_add (do_v 6 (pv 6)) (DE.o de_int)))))))))
      (dss_cons (ds_for (passes_of rfl) rfl (di_range1 rfl T.z_range (DE.o de_int)) (pg_name (i := 6) sc_law.nd rfl (by first | exact Or.inl rfl | exact Or.inr rfl)) (sg_name 6) (dss_one (ds_if (dt_not (dt_val (de_call (ok__law_refused T) (hr.mono (by decide)) rfl T.g__law_refused T.F__law_refused.kp T.b__law_refused (takes_of rfl rfl rfl rfl) (da_cons (DE.o (de_call (ok__law_mixed T) (hr.mono (by decide)) rfl T.g__law_mixed T.F__law_mixed.kp T.b__law_mixed (takes_of rfl rfl rfl rfl) (da_cons (do_v 5 (pv 5)) (da_cons (do_v 6 (pv 6)) da_nil)))) (da_cons (do_v 2 (pv 2)) da_nil))))) (dss_one (ds_ret de_bl)) dss_nil)))
      (dss_one (ds_ret (de_cmp (op_eqD hr.units) o_eq (nomark _) (DE.o (de_call (ok_piece_rows T) (hr.mono (by decide)) rfl T.g_piece_rows T.F_piece_rows.kp T.b_piece_rows (takes_of rfl rfl rfl rfl) (da_cons (do_v 2 (pv 2)) da_nil))) (do_v 3 (pv 3)))))))))))
end
end Lk21
set_option maxHeartbeats 1000000
namespace Lk21.B
open G
theorem line_ge : 1000000 ≤ LINE := by decide
def byt (b : Int) : Prop := 0 ≤ b ∧ b < 256
abbrev PS := List (List Int) × List Int
def pst (a : PS) (b : Int) : PS := if b = 10 then (a.1 ++ [a.2], []) else (a.1, a.2 ++ [b])
def pall (a : PS) : List (List Int) := a.1 ++ [a.2]
def parts (l : List Int) : List (List Int) := pall (l.foldl pst ([], []))
def goodP (k : Nat) (a : PS) : Prop := a.1.length ≤ k ∧ ∀ p ∈ pall a, p.length ≤ k ∧ ∀ b ∈ p, byt b
theorem goodP_step (k : Nat) (a : PS) (b : Int) (hb : byt b) (h : goodP k a) : goodP (k + 1) (pst a b) := by
  obtain ⟨h2, h3⟩ := h
  have hz : ∀ p ∈ a.1, p.length ≤ k ∧ ∀ b ∈ p, byt b := fun p hp => h3 p (List.mem_append_left _ hp)
  have hw := h3 a.2 (by simp [pall])
  unfold pst
  split
  · refine ⟨by simp; omega, fun p hp => ?_⟩
    simp only [pall, List.mem_append, List.mem_cons, List.not_mem_nil, or_false] at hp
    rcases hp with (z | z) | z
    · exact ⟨by have := (hz p z).1; omega, (hz p z).2⟩
    · subst z; exact ⟨by omega, hw.2⟩
    · subst z; exact ⟨by simp, fun _ z => nomatch z⟩
  · refine ⟨by simp; omega, fun p hp => ?_⟩
    simp only [pall, List.mem_append, List.mem_cons, List.not_mem_nil, or_false] at hp
    rcases hp with z | z
    · exact ⟨by have := (hz p z).1; omega, (hz p z).2⟩
    · subst z
      refine ⟨by simp; omega, fun c hc => ?_⟩
      rcases List.mem_append.mp hc with z | z
      · exact hw.2 c z
      · have : c = b := by simpa using z
        subst this; exact hb
theorem goodP_0 : goodP 0 (([], []) : PS) := ⟨by simp, fun p hp => by
  have : p = [] := by simpa [pall] using hp
  subst this; exact ⟨by simp, fun _ z => nomatch z⟩⟩
theorem goodP_all (l : List Int) (h : ∀ b ∈ l, byt b) : ∀ (r : List Int) (a : PS) (k : Nat), (∀ b ∈ r, byt b) → goodP k a → goodP (k + r.length) (r.foldl pst a)
  | [], a, k, _, g => g
  | b :: r, a, k, hb, g => by
    have := goodP_all l h r (pst a b) (k + 1) (fun c hc => hb c (List.mem_cons_of_mem _ hc)) (goodP_step k a b (hb b (by simp)) g)
    rw [List.foldl_cons, List.length_cons]
    rw [show k + (r.length + 1) = k + 1 + r.length by omega]
    exact this
theorem parts_good (l : List Int) (h : ∀ b ∈ l, byt b) : goodP l.length (l.foldl pst ([], [])) := by
  have := goodP_all l h l ([], []) 0 h goodP_0
  simpa using this
def inS (b : Int) : Bool := decide (32 ≤ b) && decide (b ≤ 126) && decide (b ≠ 37)
def gd (b : Int) : Bool := decide (b = 10) || inS b
def txP (p : List Int) : Tx := p.map Int.toNat
def okRow (p : List Int) : Bool := decide (p.length ≤ 60) && !decide (p.getLast? = some 32)
def plainT (l : List Int) : Option (List Tx) := if (l.all gd && (parts l).all okRow) = true then some ((parts l).map txP) else none
def optD : Option (List Tx) → D
  | none => .non
  | some rows => .lst true (rows.map .str)
def rowsD (a : PS) : D := .lst true ((pall a).map fun p => .str (txP p))
theorem sign_all : ((List.range 256).all fun (b : Nat) => match d_sign_by [.int (b : Int)] with | .ok (.str s) => s == (if inS (b : Int) then [b] else []) | _ => false) = true := by decide +kernel
theorem sign_eq (b : Int) (h : byt b) : d_sign_by [.int b] = .ok (.str (if inS b = true then [b.toNat] else [])) := by
  obtain ⟨n, rfl⟩ : ∃ n : Nat, b = n := ⟨b.toNat, by have := h.1; omega⟩
  have hn : n < 256 := by have := h.2; omega
  have := List.all_eq_true.mp sign_all n (List.mem_range.mpr hn)
  split at this
  · rename_i s e
    rw [e]
    have : s = if inS (n : Int) = true then [n] else [] := by simpa using this
    rw [this]; simp
  · cases this
theorem grow : ∀ (r : List Int) (a : PS), (∃ p ∈ pall a, 60 < p.length) → ∃ p ∈ pall (r.foldl pst a), 60 < p.length
  | [], a, h => h
  | b :: r, a, ⟨p, hp, hl⟩ => by
    rw [List.foldl_cons]
    refine grow r (pst a b) ?_
    have hp' : p ∈ a.1 ∨ p = a.2 := by simpa [pall] using hp
    unfold pst
    split
    · refine ⟨p, ?_, hl⟩
      rcases hp' with z | z <;> simp [pall, z]
    · rcases hp' with z | z
      · exact ⟨p, by simp [pall, z], hl⟩
      · subst z; exact ⟨a.2 ++ [b], by simp [pall], by simp; omega⟩
theorem txP_len (p : List Int) : (txP p).length = p.length := by simp [txP]
theorem rowsD_10 (a : PS) : rowsD (pst a 10) = .lst true ((a.1.map (fun p => D.str (txP p)) ++ [.str (txP a.2)]) ++ [.str []]) := by
  simp [rowsD, pst, pall, txP]
theorem rowsD_b (a : PS) (b : Int) (h : b ≠ 10) : rowsD (pst a b) = .lst true (a.1.map (fun p => D.str (txP p)) ++ [.str (txP a.2 ++ [b.toNat])]) := by
  simp [rowsD, pst, pall, txP, h]
theorem pl_loop (x0 j3 : Option D) : ∀ (r : List Int) (a : PS) (j2 : Option D), (∀ b ∈ r, byt b) → (∀ p ∈ pall a, p.length ≤ 60) → a.1.length + r.length ≤ 100000 →
    (∃ ρ', forL (bN 2) lb1_plain_rows (r.map .int) [x0, some (rowsD a), j2, j3] = .rt .non ρ' ∧ (r.all gd = false ∨ ∃ p ∈ pall (r.foldl pst a), 60 < p.length)) ∨
    (∃ k2, forL (bN 2) lb1_plain_rows (r.map .int) [x0, some (rowsD a), j2, j3] = .nx [x0, some (rowsD (r.foldl pst a)), k2, j3] ∧ r.all gd = true ∧ ∀ p ∈ pall (r.foldl pst a), p.length ≤ 60)
  | [], a, j2, _, hp, _ => .inr ⟨j2, rfl, rfl, hp⟩
  | b :: r, a, j2, hb, hp, hl => by
    have hL := line_ge
    have hbb := hb b (by simp)
    have hsg := sign_eq b hbb
    have hcur : a.2.length ≤ 60 := hp a.2 (by simp [pall])
    have e0 : rowsD a = .lst true (a.1.map (fun p => D.str (txP p)) ++ [.str (txP a.2)]) := by simp [rowsD, pall]
    have hlr : (a.1.map (fun p => D.str (txP p)) ++ [D.str (txP a.2)]).length < LINE := by simp at hl ⊢; omega
    by_cases h : b = 10
    · subst h
      have hp2 : ∀ p ∈ pall (pst a 10), p.length ≤ 60 := by
        intro p hq
        have : p ∈ a.1 ∨ p = a.2 ∨ p = [] := by simpa [pall, pst] using hq
        rcases this with z | z | z
        · exact hp p (by simp [pall, z])
        · subst z; exact hcur
        · subst z; simp
      have ih := pl_loop x0 j3 r (pst a 10) (some (.int 10)) (fun c hc => hb c (List.mem_cons_of_mem _ hc)) hp2 (by simp [pst] at hl ⊢; omega)
      have hstep : forL (bN 2) lb1_plain_rows (D.int 10 :: r.map .int) [x0, some (rowsD a), j2, j3] = forL (bN 2) lb1_plain_rows (r.map .int) [x0, some (rowsD (pst a 10)), some (.int 10), j3] := by
        rw [rowsD_10, e0]
        simp only [forL]
        rw [lb1_plain_rows]
        simp_arith! [t__0, hlr]
      rw [List.map_cons, hstep, List.foldl_cons]
      have eg : (10 :: r).all gd = r.all gd := by simp [gd]
      rw [eg]
      exact ih
    · have hd : decide (b = 10) = false := decide_eq_false h
      have eg : (b :: r).all gd = (inS b && r.all gd) := by simp [gd, h]
      rw [List.map_cons, List.foldl_cons, eg]
      cases hs : inS b with
      | false =>
        rw [hs] at hsg
        refine .inl ⟨[x0, some (rowsD a), some (.int b), j3], ?_, .inl rfl⟩
        rw [e0]
        simp only [forL]
        rw [lb1_plain_rows]
        simp_arith! [hd, hsg, t__0]
      | true =>
        rw [hs] at hsg
        have en : decide ([b.toNat] = ([] : Tx)) = false := by simp
        have hlen : fLen (.str (txP a.2)) = some (.int (a.2.length : Int)) := by
          have : (txP a.2).length ≤ LINE := by rw [txP_len]; omega
          simp only [fLen, txP_len]
          rw [if_pos (by omega)]
        have had : fAdd (.str (txP a.2)) (.str [b.toNat]) = some (.str (txP a.2 ++ [b.toNat])) := by
          have : (txP a.2).length + 1 ≤ LINE := by rw [txP_len]; omega
          simp [fAdd, this]
        by_cases h60 : a.2.length = 60
        · refine .inl ⟨[x0, some (rowsD a), some (.int b), j3], ?_, .inr (grow r _ ⟨a.2 ++ [b], by simp [pall, pst, h], by simp; omega⟩)⟩
          rw [e0]
          simp only [forL]
          rw [lb1_plain_rows]
          have d60 : decide ((a.2.length : Int) = 60) = true := by simp; omega
          simp_arith! [hd, hsg, t__0, en, hlen, d60]
        · have hp2 : ∀ p ∈ pall (pst a b), p.length ≤ 60 := by
            intro p hq
            have : p ∈ a.1 ∨ p = a.2 ++ [b] := by simpa [pall, pst, h] using hq
            rcases this with z | z
            · exact hp p (by simp [pall, z])
            · subst z; simp; omega
          have ih := pl_loop x0 j3 r (pst a b) (some (.int b)) (fun c hc => hb c (List.mem_cons_of_mem _ hc)) hp2 (by simp [pst, h] at hl ⊢; omega)
          have hstep : forL (bN 2) lb1_plain_rows (D.int b :: r.map .int) [x0, some (rowsD a), j2, j3] = forL (bN 2) lb1_plain_rows (r.map .int) [x0, some (rowsD (pst a b)), some (.int b), j3] := by
            rw [rowsD_b a b h, e0]
            simp only [forL]
            rw [lb1_plain_rows]
            have d60 : decide ((a.2.length : Int) = 60) = false := by simp; omega
            have hset : ∀ y z : D, (a.1.map (fun p => D.str (txP p)) ++ [y]).set a.1.length z = a.1.map (fun p => D.str (txP p)) ++ [z] := fun y z => by
              have := set_last (a.1.map (fun p => D.str (txP p))) y z
              rwa [List.length_map] at this
            have hix : ixD (a.1.length + 1) (-1) = some a.1.length := ixD_last _
            simp_arith! [hd, hsg, t__0, en, hlen, d60, had, List.length_append, List.length_map, hix, hset]
          rw [hstep]
          exact ih
def endB (t : Tx) : Bool := decide (t.getLast? = some 32)
theorem ends_eq (t : Tx) : fEnds (.str t) (.str [32]) = some (.bl (endB t)) := by
  rcases List.eq_nil_or_concat t with z | ⟨r, c, z⟩
  · subst z; simp [fEnds, preT, endB]
  · rw [List.concat_eq_append] at z
    subst z
    simp [fEnds, preT, endB]
    rw [Bool.eq_iff_iff]; simp
theorem endB_tx (p : List Int) (h : ∀ b ∈ p, byt b) : endB (txP p) = decide (p.getLast? = some 32) := by
  unfold endB txP
  rw [List.getLast?_map]
  cases e : p.getLast? with
  | none => simp
  | some b =>
    have := (h b (List.mem_of_getLast? e)).1
    simp only [Option.map_some, Option.some.injEq]
    congr 1
    exact propext ⟨fun z => by omega, fun z => by subst z; rfl⟩
theorem parts_byt (l : List Int) (h : ∀ b ∈ l, byt b) : ∀ p ∈ parts l, p.length ≤ l.length ∧ ∀ b ∈ p, byt b := (parts_good l h).2
theorem parts_len (l : List Int) (h : ∀ b ∈ l, byt b) : (parts l).length ≤ l.length + 1 := by
  have := (parts_good l h).1
  unfold parts pall
  rw [List.length_append]; simp; exact this
theorem rowsD_0 : rowsD (([], []) : PS) = .lst true [.str []] := rfl
theorem rowsD_end (l : List Int) : rowsD (l.foldl pst ([], [])) = .lst true (((parts l).map txP).map .str) := by
  unfold rowsD parts
  rw [List.map_map]; rfl
theorem pall0 : ∀ p ∈ pall (([], []) : PS), p.length ≤ 60 := fun p hq => by
  have : p = [] := by simpa [pall] using hq
  subst this; simp
theorem plain_rows_eq (l : List Int) (h : ∀ b ∈ l, byt b) (hl : l.length ≤ 20000) : d_plain_rows [.lst false (l.map .int)] = .ok (optD (plainT l)) := by
  have hL := line_ge
  have hp := parts_byt l h
  have hpl := parts_len l h
  rcases pl_loop (some (.lst false (l.map .int))) none l ([], []) none h pall0 (by simp; omega) with ⟨ρ', h1, h2⟩ | ⟨k2, h1, h2, h3⟩
  · have e : plainT l = none := by
      unfold plainT
      rcases h2 with h2 | ⟨p, hp1, hp2⟩
      · rw [h2]; simp
      · have : (parts l).all okRow = false := by
          rw [List.all_eq_false]
          exact ⟨p, hp1, by simp [okRow]; intro z; omega⟩
        rw [this]; simp
    rw [e]
    rw [rowsD_0] at h1
    simp_arith! [d_plain_rows, b_plain_rows, t__0, h1]
    rfl
  · rw [rowsD_0, rowsD_end] at h1
    have hc : compL (cN 3) eYes le1_plain_rows [some (.lst false (l.map .int)), some (.lst true (((parts l).map txP).map .str)), k2, none] (((parts l).map txP).map .str) = .ok (((parts l).map txP).map fun t => .bl (endB t)) :=
      compL_mapf ((parts l).map txP) fun t _ => by
        have := ends_eq t
        simp_arith! [le1_plain_rows, t__cf45, this]
    have hfa : fAny (.lst true (((parts l).map txP).map fun t => .bl (endB t))) = some (.bl (((parts l).map txP).any endB)) := by
      simp only [fAny, boolsD_mapf, Option.map_some, List.any_map]
      rfl
    have hlen : (((parts l).map txP).map fun t => D.bl (endB t)).length ≤ LINE := by simp; omega
    have hany : ((parts l).all okRow) = !(((parts l).map txP).any endB) := by
      rw [Bool.eq_iff_iff]
      simp only [List.all_eq_true, Bool.not_eq_true', List.any_eq_false, List.mem_map, okRow, Bool.and_eq_true, decide_eq_true_eq, Bool.not_eq_true', decide_eq_false_iff_not]
      constructor
      · rintro z t ⟨p, hq, rfl⟩ he
        rw [endB_tx p (hp p hq).2, decide_eq_true_eq] at he
        exact (z p hq).2 he
      · intro z p hq
        refine ⟨h3 p hq, fun he => z (txP p) ⟨p, hq, rfl⟩ ?_⟩
        rw [endB_tx p (hp p hq).2, decide_eq_true_eq]; exact he
    have ep : plainT l = if ((parts l).map txP).any endB = true then none else some ((parts l).map txP) := by
      unfold plainT
      rw [h2, hany]
      cases ((parts l).map txP).any endB <;> simp
    rw [ep]
    cases hA : ((parts l).map txP).any endB with
    | true =>
      rw [hA] at hfa
      simp_arith! [d_plain_rows, b_plain_rows, t__0, h1, hc, hlen, hfa]
      rfl
    | false =>
      rw [hA] at hfa
      simp_arith! [d_plain_rows, b_plain_rows, t__0, h1, hc, hlen, hfa]
      rfl
end Lk21.B
set_option maxHeartbeats 1000000
namespace Lk21.F
open G
abbrev SG : Tx := t_01234567_b361
abbrev SM : Tx := t_abcdefgh_50bd
theorem line_ge1 : 1000000 ≤ LINE := by decide
def among (S s : Tx) : Bool := s.all fun c => decide (c ∈ S)
theorem among_eq (s S : Tx) (h : s.length ≤ 1000000) : d_are_among [.str s, .str S] = .ok (.bl (among S s)) := by
  have hc : compL (cN 2) eYes (e2 fIn (eO 2) (eO 1)) [some (.str s), some (.str S), none] (s.map fun c => .str [c]) = .ok (s.map fun c => .bl (decide (c ∈ S))) := by
    rw [compL_map (g := fun d => match d with | .str [c] => .bl (decide (c ∈ S)) | _ => .non), List.map_map]
    · rfl
    · intro x hx
      obtain ⟨c, _, rfl⟩ := List.mem_map.mp hx
      simp [fIn]
  have hl : s.length ≤ LINE := Nat.le_trans h line_ge1
  simp [d_are_among, runF, b_are_among, le1_are_among, hc, hl, fAll]
  simp [among, List.all_map]
def okw (w : Tx) : Bool := decide (1 ≤ w.length) && decide (w.length ≤ 8) && among SM w
theorem is_header_eq (s : Tx) (h : s.length ≤ 1000000) : d_is_header_name [.str s] = .ok (.bl (decide ((splT [45] 0 [] s).length ≤ 3) && (splT [45] 0 [] s).all okw)) := by
  have hl : s.length + 2 ≤ LINE := Nat.le_trans (Nat.add_le_add_right h 2) (by decide)
  have hw : ∀ w ∈ splT [45] 0 [] s, w.length ≤ 1000000 := fun w hw => by
    have := splT_len [45] s 0 [] w hw
    simp at this; omega
  have hm : (splT [45] 0 [] s).length ≤ LINE := by
    have := splT_many [45] s 0 []
    have := line_ge1
    omega
  have hc : ∀ W : List Tx, (∀ w ∈ W, w.length ≤ 1000000) → compL (cN 2) eYes (eAnd (eChain fLe fLe (eC (.int 1)) (e1 fLen (eO 2)) (eC (.int 8))) (eCall d_are_among [eO 2, eC (.str SM)])) [some (.str s), some (.lst true (W.map .str)), none] (W.map .str) = .ok (W.map fun w => .bl (okw w)) := by
    intro W hW
    rw [compL_map (g := fun d => match d with | .str w => .bl (okw w) | _ => .non), List.map_map]
    · rfl
    · intro x hx
      obtain ⟨w, hw, rfl⟩ := List.mem_map.mp hx
      have h1 := hW w hw
      have h2 : w.length ≤ LINE := Nat.le_trans h1 line_ge1
      simp [fLe, fLen, h2, okw]
      by_cases h3 : 1 ≤ w.length
      · by_cases h4 : w.length ≤ 8
        · simp [h3, h4, among_eq w _ h1, show (1 : Int) ≤ w.length by omega, show (w.length : Int) ≤ 8 by omega]
        · simp [h3, h4, show (1 : Int) ≤ w.length by omega, show ¬ (w.length : Int) ≤ 8 by omega]
      · simp [h3, show ¬ (1 : Int) ≤ w.length by omega]
  simp [d_is_header_name, runF, b_is_header_name, le1_is_header_name, fIsT, isT, fSplit, fNot, D.isS, t__b3f8, hl, fGt, fLen]
  by_cases h3 : (splT [45] 0 [] s).length ≤ 3
  · simp [h3, show ¬ (3 : Int) < ((splT [45] 0 [] s).length : Int) by omega, hc _ hw, hm, fAll, List.all_map]
  · simp [h3, show (3 : Int) < ((splT [45] 0 [] s).length : Int) by omega]
theorem is_value_eq (s : Tx) (h : s.length ≤ 1000000) : d_is_value [.str s] = .ok (.bl (among SG s && (decide (s = []) || !decide ([] ∈ splT [32] 0 [] s)))) := by
  have hl : s.length + 2 ≤ LINE := Nat.le_trans (Nat.add_le_add_right h 2) (by decide)
  simp [d_is_value, runF, b_is_value, fIsT, isT, fNot, among_eq s _ h]
  cases ha : among SG s with
  | false => simp
  | true =>
    simp [t__0]
    by_cases hs : s = []
    · simp [hs]
    · simp [hs, fNin, fIn, fSplit, D.isS, D.fl, t__cf45, hl]
theorem joinT_le (S : Tx) (m : Nat) : ∀ l : List Tx, (∀ w ∈ l, w.length ≤ m) → (joinT S l).length ≤ l.length * (m + S.length)
  | [], _ => by simp [joinT]
  | [p], h => by
    have := h p (by simp)
    simp only [joinT, List.length_cons, List.length_nil]; omega
  | p :: q :: r, h => by
    have h1 := h p (by simp)
    have h2 := joinT_le S m (q :: r) fun w hw => h w (List.mem_cons_of_mem _ hw)
    simp only [joinT, List.length_append]
    rw [List.length_cons, Nat.succ_mul]
    omega
theorem sum_le (m : Nat) : ∀ l : List Tx, (∀ w ∈ l, w.length ≤ m) → (l.map List.length).sum ≤ l.length * m
  | [], _ => by simp
  | p :: l, h => by
    have h1 := h p (by simp)
    have h2 := sum_le m l fun w hw => h w (List.mem_cons_of_mem _ hw)
    simp only [List.map_cons, List.sum_cons, List.length_cons, Nat.succ_mul]; omega
theorem spl_one (c : Nat) : ∀ (w acc : Tx), c ∉ w → splT [c] 0 acc w = [acc ++ w]
  | [], acc, _ => by simp [splT]
  | d :: w, acc, h => by
    have h1 : d ≠ c := fun e => h (by simp [e])
    have h2 : c ∉ w := fun e => h (by simp [e])
    have hp : preT [c] (d :: w) = false := by simp [preT, h1]
    rw [show splT [c] 0 acc (d :: w) = splT [c] 0 (acc ++ [d]) w by simp [splT, hp], spl_one c w _ h2]
    simp
theorem spl_app (c : Nat) (r : Tx) : ∀ (w acc : Tx), c ∉ w → splT [c] 0 acc (w ++ c :: r) = (acc ++ w) :: splT [c] 0 [] r
  | [], acc, _ => by simp [splT, preT]
  | d :: w, acc, h => by
    have h1 : d ≠ c := fun e => h (by simp [e])
    have h2 : c ∉ w := fun e => h (by simp [e])
    have hp : preT [c] (d :: (w ++ c :: r)) = false := by simp [preT, h1]
    rw [List.cons_append, show splT [c] 0 acc (d :: (w ++ c :: r)) = splT [c] 0 (acc ++ [d]) (w ++ c :: r) by simp [splT, hp], spl_app c r w _ h2]
    simp
theorem spl_join (c : Nat) : ∀ (W : List Tx), W ≠ [] → (∀ w ∈ W, c ∉ w) → splT [c] 0 [] (joinT [c] W) = W
  | [], h, _ => absurd rfl h
  | [p], _, h => by simp only [joinT]; rw [spl_one c p [] (h p (by simp))]; simp
  | p :: q :: r, _, h => by
    have h2 := spl_join c (q :: r) (by simp) fun w hw => h w (List.mem_cons_of_mem _ hw)
    simp only [joinT, List.singleton_append]
    rw [spl_app c _ p [] (h p (by simp)), h2]
    simp
def cap (w : Tx) : Tx := (w.take 1).map upC ++ w.drop 1
def hd (W : List Tx) : Tx := joinT [45] (W.map cap) ++ [58]
theorem okw_of {w : Tx} (h : okw w = true) : 1 ≤ w.length ∧ w.length ≤ 8 ∧ ∀ c ∈ w, c ∈ SM := by
  simp [okw, among] at h
  obtain ⟨⟨h1, h2⟩, h3⟩ := h
  refine ⟨?_, h2, h3⟩
  cases w with
  | nil => simp at h1
  | cons a l => simp
theorem sm_lt : ∀ c ∈ SM, c < 128 ∧ c ≠ 45 := by decide
theorem sg_ne : ∀ c ∈ SG.drop 1, c ≠ 32 ∧ c ∈ SG := by decide
def stp (st : List Tx × Tx) (w : Tx) : List Tx × Tx := if 60 < st.2.length + 1 + w.length then (st.1 ++ [st.2], 32 :: w) else (st.1, st.2 ++ 32 :: w)
def run (h : Tx) (ws : List Tx) : List Tx × Tx := ws.foldl stp ([], h)
def fin (st : List Tx × Tx) : List Tx := st.1 ++ [st.2]
theorem run_take (h : Tx) (ws : List Tx) (i : Nat) (w : Tx) (hw : ws[i]? = some w) : run h (ws.take (i + 1)) = stp (run h (ws.take i)) w := by
  rw [List.take_succ, hw]
  simp [run, List.foldl_append]
theorem stp_ok (m : Nat) (st : List Tx × Tx) (w : Tx) (h1 : st.2.length ≤ 60) (h2 : ∀ r ∈ st.1, r.length ≤ 60) (h3 : st.1.length ≤ m) (hw : w.length ≤ 59) : (stp st w).2.length ≤ 60 ∧ (∀ r ∈ (stp st w).1, r.length ≤ 60) ∧ (stp st w).1.length ≤ m + 1 := by
  unfold stp
  split
  · refine ⟨by simp; omega, ?_, by simp; omega⟩
    intro r hr
    rcases List.mem_append.mp hr with h | h
    · exact h2 r h
    · rw [List.mem_singleton.mp h]; exact h1
  · refine ⟨by simp; omega, h2, by simp only; omega⟩
theorem run_ok (h : Tx) (hh : h.length ≤ 60) (ws : List Tx) (hws : ∀ w ∈ ws, w.length ≤ 59) : ∀ i, i ≤ ws.length → (run h (ws.take i)).2.length ≤ 60 ∧ (∀ r ∈ (run h (ws.take i)).1, r.length ≤ 60) ∧ (run h (ws.take i)).1.length ≤ i
  | 0, _ => by simp [run, hh]
  | i + 1, hi => by
    obtain ⟨a, b, c⟩ := run_ok h hh ws hws i (by omega)
    have hw : ws[i]? = some ws[i] := List.getElem?_eq_getElem (by omega)
    rw [run_take h ws i _ hw]
    exact stp_ok i _ _ a b c (hws _ (List.getElem_mem _))
theorem cap_len (w : Tx) : (cap w).length = w.length := by
  simp [cap]; cases w <;> simp; omega
theorem cap_all (w : Tx) (h : okw w = true) : w.all (· < 128) = true := by
  obtain ⟨_, _, h3⟩ := okw_of h
  simp only [List.all_eq_true, decide_eq_true_eq]
  exact fun c hc => (sm_lt c (h3 c hc)).1
theorem name_split (W : List Tx) (hW : W ≠ []) (hw : ∀ w ∈ W, okw w = true) : splT [45] 0 [] (joinT [45] W) = W :=
  spl_join 45 W hW fun w h hc => (sm_lt 45 ((okw_of (hw w h)).2.2 45 hc)).2 rfl
theorem join_len3 (W : List Tx) (h3 : W.length ≤ 3) (h8 : ∀ w ∈ W, w.length ≤ 8) : (joinT [45] W).length ≤ 27 := by
  have := joinT_le [45] 8 W h8
  simp at this; omega
theorem hd_len (W : List Tx) (h3 : W.length ≤ 3) (hw : ∀ w ∈ W, okw w = true) : (hd W).length ≤ 60 := by
  have := join_len3 (W.map cap) (by simpa using h3) (by
    intro w hw'
    obtain ⟨v, hv, rfl⟩ := List.mem_map.mp hw'
    rw [cap_len]; exact (okw_of (hw v hv)).2.1)
  simp only [hd, List.length_append, List.length_cons, List.length_nil]; omega
theorem cap_join (W : List Tx) (h3 : W.length ≤ 3) (hw : ∀ w ∈ W, okw w = true) : fJoin (.str [45]) (.lst true (W.map fun w => .str (cap w))) = some (.str (joinT [45] (W.map cap))) := by
  have hs := sum_le 8 (W.map cap) (by
    intro w hw'
    obtain ⟨v, hv, rfl⟩ := List.mem_map.mp hw'
    rw [cap_len]; exact (okw_of (hw v hv)).2.1)
  have hle : ((W.map cap).map List.length).sum + W.length ≤ LINE := Nat.le_trans (by simp only [List.length_map] at hs; omega : _ ≤ 1000) (by decide)
  simp only [fJoin, strsD_mapf, Option.bind_some, List.length_cons, List.length_nil, Nat.zero_add, Nat.mul_one, List.length_map, hle, if_true]
theorem cap_fold (w : Tx) (h : okw w = true) (e : E) (ρ : Env) (he : e ρ = .ok (.str w)) : (e2 fAdd (e1 fUpper (e2 fIxO e (eC (.int 0)))) (eSlLo e (eC (.int 1)))) ρ = .ok (.str (cap w)) := by
  obtain ⟨h1, h2, h3⟩ := okw_of h
  have hl : w.length ≤ LINE := Nat.le_trans (by omega : w.length ≤ 1000) (by decide)
  have ha := cap_all w h
  cases w with
  | nil => simp at h1
  | cons a l =>
    have ha' : a < 128 := by simp at ha; exact ha.1
    have e0 : fIxO (.str (a :: l)) (.int 0) = some (.str [a]) := by
      show fIx (.str (a :: l)) (.int 0) = some (.str [a])
      simp only [fIx, hl, if_true]
      simp [ixD]
    have e2 : cutD (.str (a :: l)) (some 1) none = some (.str l) := by
      simp only [cutD, hl, if_true]; rw [show (1 : Int) = ((1 : Nat) : Int) from rfl, cut_loN]; rfl
    have e3 : fUpper (.str [a]) = some (.str [upC a]) := by
      simp [fUpper, ha']
    have hle : [upC a].length + l.length ≤ LINE := by simp at hl ⊢; omega
    simp only [e2_ap, e1_ap, eSlLo_ap, he, bind_ok, eC_ap, e0, e2, e3, of_some, fAdd, hle, if_true, cap]
    simp
theorem head_eq (W : List Tx) (h3 : W.length ≤ 3) (hw : ∀ w ∈ W, okw w = true) (hW : W ≠ []) (el : E) (ρ : Env) (h : ρ[0]? = some (some (.str (joinT [45] W)))) (h5 : ρ.length = 5)
    (hel : ∀ w, okw w = true → el ((ρ.set 4 none).set 4 (some (.str w))) = .ok (.str (cap w))) :
    (e2 fAdd (e2s fJoin (eC (.str t__b3f8)) (eComp [4] (iLst (e2s fSplit (eO 0) (eC (.str t__b3f8)))) (cN 4) eYes el)) (eC (.str t__363f))) ρ = .ok (.str (hd W)) := by
  obtain ⟨a, b, c, d, e, rfl⟩ : ∃ a b c d e, ρ = [a, b, c, d, e] := by
    match ρ, h5 with
    | [a, b, c, d, e], _ => exact ⟨a, b, c, d, e, rfl⟩
  have ha : a = some (.str (joinT [45] W)) := by simpa using h
  subst ha
  have hc : compL (cN 4) eYes el [some (.str (joinT [45] W)), b, c, d, none] (W.map .str) = .ok (W.map fun w => .str (cap w)) := by
    refine compL_mapf W fun w hw' => ?_
    exact hel w (hw w hw')
  have hl := join_len3 W h3 fun w h => (okw_of (hw w h)).2.1
  have hl2 : (joinT [45] W).length + 2 ≤ LINE := Nat.le_trans (by omega : _ ≤ 1000) (by decide)
  have hWl : W.length ≤ LINE := Nat.le_trans (by omega : W.length ≤ 1000) (by decide)
  have hs : fSplit (.str (joinT [45] W)) (.str [45]) = some (.lst true (W.map .str)) := by
    simp [fSplit, hl2, name_split W hW hw]
  have hh := hd_len W h3 hw
  simp only [hd, List.length_append, List.length_cons, List.length_nil] at hh
  have hle : (joinT [45] (W.map cap)).length + 1 ≤ LINE := Nat.le_trans (by omega : _ ≤ 1000) (by decide)
  have hj := cap_join W h3 hw
  simp [t__b3f8, t__363f, hs, hc, hWl, hj, hle, hd]
theorem value_split (ws : List Tx) (h0 : ws ≠ []) (hv : ∀ w ∈ ws, ∀ c ∈ w, c ∈ SG.drop 1) : splT [32] 0 [] (joinT [32] ws) = ws :=
  spl_join 32 ws h0 fun w h hc => (sg_ne 32 (hv w h 32 hc)).1 rfl
theorem val_len (ws : List Tx) (hn : ws.length ≤ 100) (hws : ∀ w ∈ ws, w.length ≤ 59) : (joinT [32] ws).length ≤ 6000 := by
  have := joinT_le [32] 59 ws hws
  simp at this; omega
theorem words_eq (ws : List Tx) (hn : ws.length ≤ 100) (hws : ∀ w ∈ ws, 1 ≤ w.length ∧ w.length ≤ 59) (hv : ∀ w ∈ ws, ∀ c ∈ w, c ∈ SG.drop 1) :
    d_words_in [.str (joinT [32] ws)] = .ok (.lst true (ws.map .str)) := by
  have hl := val_len ws hn fun w h => (hws w h).2
  have hl2 : (joinT [32] ws).length + 2 ≤ LINE := Nat.le_trans (by omega : _ ≤ 7000) (by decide)
  have hnl : ws.length ≤ LINE := Nat.le_trans (by omega : _ ≤ 1000) (by decide)
  have hf : ∀ V : List Tx, compL (cN 1) (e2 fNe (eO 1) (eC (.str t__0))) (eV 1) [some (.str (joinT [32] ws)), none] (V.map .str) = .ok ((V.filter fun w => !decide (w = [])).map .str) := by
    intro V
    refine compL_filterf V fun w _ => ⟨?_, ?_⟩
    · simp [t__0]
    · simp
  have hff : (splT [32] 0 [] (joinT [32] ws)).filter (fun w => !decide (w = [])) = ws := by
    cases ws with
    | nil => simp [joinT, splT]
    | cons a l =>
      rw [value_split (a :: l) (by simp) hv, List.filter_eq_self]
      intro w hw
      have := (hws w hw).1
      cases w <;> simp_all
  have hs : fSplit (.str (joinT [32] ws)) (.str [32]) = some (.lst true ((splT [32] 0 [] (joinT [32] ws)).map .str)) := by
    simp [fSplit, hl2]
  have hf' := hf (splT [32] 0 [] (joinT [32] ws))
  rw [hff] at hf'
  simp only [d_words_in, runF, b_words_in, li1_words_in, le1_words_in, sRet_ap, eComp_ap, iLst_ap, e2s_ap, eO_ap, eC_ap, t__cf45, List.map_cons, List.map_nil, List.length_cons, List.length_nil, List.replicate, List.cons_append, List.nil_append, get_0, bind_ok, isS_str, if_true, hs, of_some, clr_cons, clr_nil, List.set, hf', List.length_map, hnl, sE_ok, endF_rt]
theorem is_header_ok (W : List Tx) (h3 : W.length ≤ 3) (hw : ∀ w ∈ W, okw w = true) (hW : W ≠ []) : d_is_header_name [.str (joinT [45] W)] = .ok (.bl true) := by
  have hl := join_len3 W h3 fun w h => (okw_of (hw w h)).2.1
  rw [is_header_eq _ (by omega), name_split W hW hw]
  have : W.all okw = true := List.all_eq_true.mpr hw
  rw [this]; simp [h3]
theorem joinT_mem (S : Tx) (P : Nat → Prop) (hS : ∀ c ∈ S, P c) : ∀ ws : List Tx, (∀ w ∈ ws, ∀ c ∈ w, P c) → ∀ c ∈ joinT S ws, P c
  | [], _ => by simp [joinT]
  | [p], h => h p (by simp)
  | p :: q :: r, h => by
    have h2 := joinT_mem S P hS (q :: r) fun w hw => h w (List.mem_cons_of_mem _ hw)
    intro c hc
    simp only [joinT, List.mem_append] at hc
    rcases hc with h1 | h1 | h1
    · exact h p (by simp) c h1
    · exact hS c h1
    · exact h2 c h1
theorem is_value_ok (ws : List Tx) (hn : ws.length ≤ 100) (hws : ∀ w ∈ ws, 1 ≤ w.length ∧ w.length ≤ 59) (hv : ∀ w ∈ ws, ∀ c ∈ w, c ∈ SG.drop 1) :
    d_is_value [.str (joinT [32] ws)] = .ok (.bl true) := by
  have hl := val_len ws hn fun w h => (hws w h).2
  rw [is_value_eq _ (by omega)]
  have ha : among SG (joinT [32] ws) = true := by
    simp only [among, List.all_eq_true, decide_eq_true_eq]
    exact joinT_mem [32] (· ∈ SG) (by decide) ws fun w hw c hc => (sg_ne c (hv w hw c hc)).2
  rw [ha]
  cases ws with
  | nil => simp [joinT]
  | cons a l =>
    rw [value_split (a :: l) (by simp) hv]
    have : ([] : Tx) ∉ a :: l := fun h => by have := (hws [] h).1; simp at this
    simp only [this]
    simp
theorem any_ge (ws : List Tx) (hws : ∀ w ∈ ws, 1 ≤ w.length ∧ w.length ≤ 59) : ((ws.map fun w => decide ((60 : Int) ≤ (w.length : Int))).any id) = false := by
  rw [List.any_eq_false]
  intro b hb
  obtain ⟨w, hw, rfl⟩ := List.mem_map.mp hb
  have := (hws w hw).2
  simp; omega
theorem folded_eq (W : List Tx) (h3 : W.length ≤ 3) (hw : ∀ w ∈ W, okw w = true) (hW : W ≠ []) (ws : List Tx) (hws : ∀ w ∈ ws, 1 ≤ w.length ∧ w.length ≤ 59) (hn : ws.length ≤ 100) (hv : ∀ w ∈ ws, ∀ c ∈ w, c ∈ SG.drop 1) :
    d_folded [.str (joinT [45] W), .str (joinT [32] ws)] = .ok (.lst true ((fin (run (hd W) ws)).map .str)) := by
  have hh := hd_len W h3 hw
  have he1 := head_eq W h3 hw hW (e2 fAdd (e1 fUpper (e2 fIxO (eO 4) (eC (.int 0)))) (eSlLo (eO 4) (eC (.int 1)))) [some (.str (joinT [45] W)), some (.str (joinT [32] ws)), none, none, none] rfl rfl fun w h => cap_fold w h (eO 4) _ (by simp)
  have hh1 := is_header_ok W h3 hw hW
  have hh2 := is_value_ok ws hn hws hv
  have hh3 := words_eq ws hn hws hv
  generalize joinT [45] W = N at he1 hh1
  generalize joinT [32] ws = V at he1 hh2 hh3
  have hnl : ws.length ≤ LINE := Nat.le_trans (by omega : _ ≤ 1000) (by decide)
  have hc : compL (cN 4) eYes (e2 fGe (e1 fLen (eO 4)) (eC (.int 60))) [some (.str N), some (.str V), none, none, none] (ws.map .str) = .ok (ws.map fun w => .bl (decide ((60 : Int) ≤ (w.length : Int)))) := by
    refine compL_mapf ws fun w hw' => ?_
    have : w.length ≤ LINE := Nat.le_trans (by have := hws w hw'; omega : _ ≤ 1000) (by decide)
    simp [this]
  have hany := any_ge ws hws
  obtain ⟨ρ2, hr, hI⟩ := forL_inv (b := bN 4) (body := (sSeq (sIf (e2 fGt (e2 fAdd (e2 fAdd (e1 fLen (eO 2)) (eC (.int 1))) (e1 fLen (eO 4))) (eC (.int 60))) (sSeq (sApp 3 (eV 2)) (sSet 2 (eC (.str t__0)))) sPass) (sSet 2 (e2 fAdd (e2 fAdd (eO 2) (eC (.str t__cf45))) (eO 4)))))
    (fun k ρ => k ≤ ws.length ∧ ∃ x : Option D, ρ = [some (.str N), some (.str V), some (.str (run (hd W) (ws.take k)).2), some (.lst true ((run (hd W) (ws.take k)).1.map .str)), x]) (ws.map .str) 0 [some (.str N), some (.str V), some (.str (hd W)), some (.lst true []), none] ⟨by omega, none, by simp [run]⟩ (by
      rintro i x ρ hx ⟨hi, x0, rfl⟩
      rw [List.getElem?_map] at hx
      obtain ⟨w, hw', rfl⟩ := Option.map_eq_some_iff.mp hx
      simp only [Nat.zero_add] at hi ⊢
      have hlt := (List.getElem?_eq_some_iff.mp hw').1
      obtain ⟨b1, b2, b3⟩ := run_ok (hd W) hh ws (fun w h => (hws w h).2) i hi
      have b4 := (hws w (List.mem_of_getElem? hw')).2
      rw [run_take (hd W) ws i w hw']
      generalize run (hd W) (ws.take i) = st at b1 b2 b3
      obtain ⟨o, r⟩ := st
      simp only at b1 b2 b3
      have q0 : r.length ≤ LINE := Nat.le_trans (by omega : _ ≤ 1000) (by decide)
      have q1 : r.length + 1 ≤ LINE := Nat.le_trans (by omega : _ ≤ 1000) (by decide)
      have q2 : w.length ≤ LINE := Nat.le_trans (by omega : _ ≤ 1000) (by decide)
      have q3 : 1 + w.length ≤ LINE := Nat.le_trans (by omega : _ ≤ 1000) (by decide)
      have q4 : o.length < LINE := Nat.lt_of_lt_of_le (by omega : _ < 1000) (by decide)
      have q5 : r.length + 1 + w.length ≤ LINE := Nat.le_trans (by omega : _ ≤ 1000) (by decide)
      have q6 : 1 ≤ LINE := by decide
      by_cases hb : 60 < r.length + 1 + w.length
      · have hb' : (60 : Int) < (r.length : Int) + 1 + (w.length : Int) := by omega
        refine ⟨[some (.str N), some (.str V), some (.str r), some (.lst true (o.map .str)), some (.str w)], _, by simp, .inl ?_, by omega, some (.str w), rfl⟩
        simp [t__cf45, t__0, q0, q1, q2, q3, q4, q5, q6, stp, hb, hb']
      · have hb' : ¬ (60 : Int) < (r.length : Int) + 1 + (w.length : Int) := by omega
        refine ⟨[some (.str N), some (.str V), some (.str r), some (.lst true (o.map .str)), some (.str w)], _, by simp, .inl ?_, by omega, some (.str w), rfl⟩
        simp [t__cf45, t__0, q0, q1, q2, q3, q4, q5, q6, stp, hb, hb'])
  obtain ⟨_, x, rfl⟩ := hI
  simp only [List.length_map, Nat.zero_add, List.take_length] at hr
  obtain ⟨b1, b2, b3⟩ := run_ok (hd W) hh ws (fun w h => (hws w h).2) ws.length (Nat.le_refl _)
  rw [List.take_length] at b1 b2 b3
  have q4 : (run (hd W) ws).1.length + 1 ≤ LINE := Nat.le_trans (by omega : _ ≤ 1000) (by decide)
  have hfa : fAny (.lst true (ws.map fun w => .bl (decide ((60 : Int) ≤ (w.length : Int))))) = some (.bl false) := by
    simp only [fAny, boolsD_mapf, Option.map_some, hany]
  simp only [d_folded, runF, b_folded, le1_folded, le2_folded, lb1_folded, sSeq_ap, sIf_ap, List.map_cons, List.map_nil, List.length_cons, List.length_nil, List.replicate, List.cons_append, List.nil_append]
  simp [hh1, hh2, hh3, hc, hnl, hfa]
  simp at he1
  rw [he1]
  simp [hr, hh3]
  simp [fAdd, q4, fin]
theorem cap_rows (w : Tx) (h : okw w = true) (e : E) (ρ : Env) (he : e ρ = .ok (.str w)) : (e2 fAdd (e1 fUpper (eSlHi e (eC (.int 1)))) (eSlLo e (eC (.int 1)))) ρ = .ok (.str (cap w)) := by
  obtain ⟨h1, h2, h3⟩ := okw_of h
  have hl : w.length ≤ LINE := Nat.le_trans (by omega : w.length ≤ 1000) (by decide)
  have ha := cap_all w h
  have hb : (w.take 1).all (· < 128) = true := by
    simp only [List.all_eq_true] at ha ⊢
    exact fun c hc => ha c (List.mem_of_mem_take hc)
  have e1 : cutD (.str w) none (some 1) = some (.str (w.take 1)) := by
    simp only [cutD, hl, if_true]; rw [show (1 : Int) = ((1 : Nat) : Int) from rfl, cut_hiN]
  have e2 : cutD (.str w) (some 1) none = some (.str (w.drop 1)) := by
    simp only [cutD, hl, if_true]; rw [show (1 : Int) = ((1 : Nat) : Int) from rfl, cut_loN]
  have hu : (w.take 1).length ≤ 5592405 := by simp; omega
  have e3 : fUpper (.str (w.take 1)) = some (.str ((w.take 1).map upC)) := by
    simp only [fUpper, hb, hu, decide_true, Bool.and_self, if_true]
  have hle : ((w.take 1).map upC).length + (w.drop 1).length ≤ LINE := Nat.le_trans (by simp; omega : _ ≤ 1000) (by decide)
  simp only [e2_ap, e1_ap, eSlHi_ap, eSlLo_ap, he, bind_ok, eC_ap, e1, e2, e3, of_some, fAdd, hle, if_true, cap]
theorem law_folded_eq (w0 : Tx) (hw0 : okw w0 = true) (ws : List Tx) (hws : ∀ w ∈ ws, 1 ≤ w.length ∧ w.length ≤ 59) (hne : ws ≠ []) (hn : ws.length ≤ 100) (hv : ∀ w ∈ ws, ∀ c ∈ w, c ∈ SG.drop 1) :
    d__law_folded [.str w0, .str (joinT [32] ws)] = .ok (.lst true ((fin (run (hd [w0]) ws)).map .str)) := by
  have hwA : ∀ w ∈ [w0], okw w = true := by simpa using hw0
  have hh := hd_len [w0] (by simp) hwA
  have he0 := cap_rows w0 hw0 (eO 0) [some (.str w0), some (.str (joinT [32] ws)), none, none, none] (by simp)
  have he1 : (e2 fAdd (e2 fAdd (e1 fUpper (eSlHi (eO 0) (eC (.int 1)))) (eSlLo (eO 0) (eC (.int 1)))) (eC (.str t__363f))) [some (.str w0), some (.str (joinT [32] ws)), none, none, none] = .ok (.str (hd [w0])) := by
    have hcl : (cap w0).length + 1 ≤ LINE := by
      have : (hd [w0]).length = (cap w0).length + 1 := by simp [hd, joinT]
      have hL : 1000 ≤ LINE := by decide
      omega
    have ha : fAdd (.str (cap w0)) (.str [58]) = some (.str (hd [w0])) := by simp [fAdd, hcl, hd, joinT]
    rw [e2_ap, he0]
    simp only [bind_ok, eC_ap, t__363f, ha, of_some]
  have hvl := val_len ws hn fun w h => (hws w h).2
  have hl2 : (joinT [32] ws).length + 2 ≤ LINE := Nat.le_trans (by omega : _ ≤ 7000) (by decide)
  have hs : fSplit (.str (joinT [32] ws)) (.str [32]) = some (.lst true ((splT [32] 0 [] (joinT [32] ws)).map .str)) := by
    simp [fSplit, hl2]
  have hspl := value_split ws hne hv
  have hloop : ∃ x : Option D, forL (bN 4) lb1__law_folded (ws.map .str) [some (.str w0), some (.str (joinT [32] ws)), some (.str (hd [w0])), some (.lst true []), none] = .nx [some (.str w0), some (.str (joinT [32] ws)), some (.str (run (hd [w0]) ws).2), some (.lst true ((run (hd [w0]) ws).1.map .str)), x] := by
      generalize joinT [32] ws = V
      obtain ⟨ρ2, hr, hI⟩ := forL_inv (b := bN 4) (body := lb1__law_folded)
        (fun k ρ => k ≤ ws.length ∧ ∃ x : Option D, ρ = [some (.str w0), some (.str V), some (.str (run (hd [w0]) (ws.take k)).2), some (.lst true ((run (hd [w0]) (ws.take k)).1.map .str)), x]) (ws.map .str) 0 [some (.str w0), some (.str V), some (.str (hd [w0])), some (.lst true []), none] ⟨by omega, none, by simp [run]⟩ (by
          rintro i x ρ hx ⟨hi, x0, rfl⟩
          rw [List.getElem?_map] at hx
          obtain ⟨w, hw', rfl⟩ := Option.map_eq_some_iff.mp hx
          simp only [Nat.zero_add] at hi ⊢
          have hlt := (List.getElem?_eq_some_iff.mp hw').1
          obtain ⟨b1, b2, b3⟩ := run_ok (hd [w0]) hh ws (fun w h => (hws w h).2) i hi
          have b4 := hws w (List.mem_of_getElem? hw')
          rw [run_take (hd [w0]) ws i w hw']
          generalize run (hd [w0]) (ws.take i) = st at b1 b2 b3
          obtain ⟨o, r⟩ := st
          simp only at b1 b2 b3
          have hL : 1000 ≤ LINE := by decide
          have q0 : r.length ≤ LINE := by omega
          have q2 : w.length ≤ LINE := by omega
          have q4 : (o.map D.str).length < LINE := by simp; omega
          have e5 : fLen (.str r) = some (.int (r.length : Int)) := by simp [fLen, q0]
          have e6 : fLen (.str w) = some (.int (w.length : Int)) := by simp [fLen, q2]
          have f1 : fAdd (.str r) (.str [32]) = some (.str (r ++ [32])) := by
            have : r.length + 1 ≤ LINE := by omega
            simp [fAdd, this]
          have f2 : fAdd (.str (r ++ [32])) (.str w) = some (.str (r ++ 32 :: w)) := by
            have : r.length + 1 + w.length ≤ LINE := by omega
            simp [fAdd, this]
          have f3 : fAdd (.str []) (.str [32]) = some (.str [32]) := by
            have : 1 ≤ LINE := by omega
            simp [fAdd, this]
          have f4 : fAdd (.str [32]) (.str w) = some (.str (32 :: w)) := by
            have : 1 + w.length ≤ LINE := by omega
            simp [fAdd, this]
          have hq : ((60 : Int) < (r.length : Int) + 1 + (w.length : Int)) = (60 < r.length + 1 + w.length) := propext (by omega)
          refine ⟨[some (.str w0), some (.str V), some (.str r), some (.lst true (o.map .str)), some (.str w)], _, by simp, .inl ?_, by omega, some (.str w), rfl⟩
          cases hb : decide (60 < r.length + 1 + w.length) with
          | true =>
            simp only [stp, of_decide_eq_true hb, if_true]
            simp_arith! [lb1__law_folded, t__0, t__cf45, e5, e6, f3, f4, hq, hb, q4, List.map_append]
          | false =>
            simp only [stp, of_decide_eq_false hb, if_false]
            simp_arith! [lb1__law_folded, t__0, t__cf45, e5, e6, f1, f2, hq, hb])
      obtain ⟨_, x, rfl⟩ := hI
      simp only [List.length_map, Nat.zero_add, List.take_length] at hr
      exact ⟨x, hr⟩
  obtain ⟨x, hr⟩ := hloop
  have hf : frzs (ws.map D.str) = ws.map D.str := frzs_str _
  obtain ⟨b1, b2, b3⟩ := run_ok (hd [w0]) hh ws (fun w h => (hws w h).2) ws.length (Nat.le_refl _)
  rw [List.take_length] at b1 b2 b3
  have q4 : (run (hd [w0]) ws).1.length + 1 ≤ LINE := Nat.le_trans (by omega : _ ≤ 1000) (by decide)
  rw [hspl] at hs
  have hfa : fAdd (.lst true ((run (hd [w0]) ws).1.map .str)) (.lst true [.str (run (hd [w0]) ws).2]) = some (.lst true ((fin (run (hd [w0]) ws)).map .str)) := by
    simp [fAdd, q4, fin]
  generalize joinT [32] ws = V at he1 hs hf hr
  simp only [d__law_folded, runF, b__law_folded, sSeq_ap, sSet_ap, List.map_cons, List.map_nil, List.length_cons, List.length_nil, List.replicate, List.cons_append, List.nil_append]
  rw [he1]
  simp_arith! [t__cf45, hs, hf, hr, hfa]
end Lk21.F
set_option maxHeartbeats 1000000
namespace Lk21
open G
theorem line_ge : 1000000 ≤ LINE := by decide
theorem digC : ∀ d : Nat, d < 10 → (Nat.digitChar d).toNat = 48 + d := by decide
theorem numT_lt {n : Nat} (h : n < 10) : numT n = [48 + n] := by
  unfold numT
  rw [Nat.toDigits_of_lt_base h]
  show [(Nat.digitChar n).toNat] = _
  rw [digC n h]
theorem numT_step {n : Nat} (h : 10 ≤ n) : numT n = numT (n / 10) ++ [48 + n % 10] := by
  have hm : n % 10 < 10 := Nat.mod_lt n (by decide)
  have t : Nat.toDigits 10 (n / 10) ++ Nat.toDigits 10 (n % 10) = Nat.toDigits 10 (10 * (n / 10) + n % 10) := Nat.toDigits_append_toDigits (by decide) (by omega) hm
  rw [Nat.div_add_mod] at t
  show (Nat.toDigits 10 n).map Char.toNat = _
  rw [← t, List.map_append, Nat.toDigits_of_lt_base hm]
  show (Nat.toDigits 10 (n / 10)).map Char.toNat ++ [(Nat.digitChar (n % 10)).toNat] = _
  rw [digC _ hm] <;> rfl
def valT (t : Tx) : Nat := t.foldl (fun a c => a * 10 + (c - 48)) 0
theorem val_num : ∀ (k n : Nat), n < 10 ^ k → valT (numT n) = n ∧ (numT n).length ≤ k + 1 ∧ ∀ c ∈ numT n, 48 ≤ c ∧ c ≤ 57
  | 0, n, h => by
    have : n = 0 := by simpa using h
    subst this
    rw [numT_lt (by decide)]
    exact ⟨rfl, by simp, by simp⟩
  | k + 1, n, h => by
    by_cases hn : n < 10
    · rw [numT_lt hn]
      refine ⟨by simp [valT], by simp, fun c hc => ?_⟩
      have : c = 48 + n := by simpa using hc
      omega
    · rw [numT_step (by omega)]
      have hd : n / 10 < 10 ^ k := by rw [Nat.pow_succ] at h; omega
      obtain ⟨h1, h2, h3⟩ := val_num k (n / 10) hd
      refine ⟨?_, by simp; omega, fun c hc => ?_⟩
      · have : valT (numT (n / 10) ++ [48 + n % 10]) = valT (numT (n / 10)) * 10 + (48 + n % 10 - 48) := by simp [valT]
        rw [this, h1]; omega
      · rcases List.mem_append.mp hc with z | z
        · exact h3 c z
        · have : c = 48 + n % 10 := by simpa using z
          omega
def hit (R : List Tx) (n : Nat) : Bool := R.any fun r => preT ([45, 45, 98] ++ numT n) r
theorem pigeon : ∀ (m : Nat) (L : List Nat), L.length < m → ∃ n, n < m ∧ n ∉ L
  | 0, _, h => absurd h (Nat.not_lt_zero _)
  | m + 1, L, h => by
    by_cases hm : m ∈ L
    · have hlt : (L.filter fun x => decide (x ≠ m)).length < L.length := by
        refine List.length_filter_lt_length_iff_exists.mpr ⟨m, hm, by simp⟩
      obtain ⟨n, h1, h2⟩ := pigeon m (L.filter fun x => decide (x ≠ m)) (by omega)
      exact ⟨n, by omega, fun z => h2 (List.mem_filter.mpr ⟨z, by simp; omega⟩)⟩
    · exact ⟨m, by omega, hm⟩
theorem len_flat {α β : Type} (f : α → List β) (k : Nat) : ∀ l : List α, (∀ a ∈ l, (f a).length ≤ k) → (l.flatMap f).length ≤ k * l.length
  | [], _ => by simp
  | a :: l, h => by
    have h1 := h a (by simp)
    have h2 := len_flat f k l fun b hb => h b (by simp [hb])
    rw [List.flatMap_cons, List.length_append, List.length_cons, Nat.mul_succ]; omega
theorem miss (R : List Tx) (hR : R.length ≤ 100000) : ∃ n, n ≤ 9 * R.length ∧ hit R n = false := by
  obtain ⟨n, h1, h2⟩ := pigeon (9 * R.length + 1) (R.flatMap fun r => (List.range 9).map fun k => valT ((r.drop 3).take k)) (by
    have := len_flat (fun r : Tx => (List.range 9).map fun k => valT ((r.drop 3).take k)) 9 R (fun r _ => by simp)
    omega)
  refine ⟨n, by omega, ?_⟩
  cases hh : hit R n with
  | false => rfl
  | true =>
    exfalso
    obtain ⟨r, hr, hp⟩ := List.any_eq_true.mp hh
    obtain ⟨v1, v2, _⟩ := val_num 7 n (by omega)
    have e0 : r.take ([45, 45, 98] ++ numT n).length = [45, 45, 98] ++ numT n := beq_iff_eq.mp hp
    have e : r.take (3 + (numT n).length) = [45, 45, 98] ++ numT n := by rw [List.length_append] at e0; exact e0
    have e2 : (r.drop 3).take (numT n).length = numT n := by
      have := congrArg (List.drop 3) e
      rw [List.drop_take] at this
      simpa using this
    refine h2 (List.mem_flatMap.mpr ⟨r, hr, List.mem_map.mpr ⟨(numT n).length, List.mem_range.mpr (by omega), ?_⟩⟩)
    rw [e2, v1]
def bordF (R : List Tx) : Nat → Nat → Nat
  | 0, n => n
  | k + 1, n => if hit R n then bordF R k (n + 1) else n
def bordN (R : List Tx) : Nat := bordF R (9 * R.length) 0
def bordT (R : List Tx) : Tx := 98 :: numT (bordN R)
theorem bordF_le (R : List Tx) : ∀ k n, bordF R k n ≤ n + k
  | 0, n => by simp [bordF]
  | k + 1, n => by
    unfold bordF
    split
    · have := bordF_le R k (n + 1); omega
    · omega
theorem bordN_le (R : List Tx) (hR : R.length ≤ 100000) : bordN R ≤ 900000 := by
  have := bordF_le R (9 * R.length) 0
  unfold bordN; omega
theorem whL_bord {c : E} {body : Sd} {R : List Tx} {E0 : Nat → Env} (h1 : ∀ n, n ≤ 900000 → c (E0 n) = .ok (.bl (hit R n))) (h2 : ∀ n, n ≤ 900000 → body (E0 n) = .nx (E0 (n + 1))) :
    ∀ (k n fuel : Nat), (∃ j, j ≤ k ∧ hit R (n + j) = false) → n + k ≤ 900000 → k < fuel → whL c body fuel (E0 n) = .nx (E0 (bordF R k n))
  | k, n, 0, _, _, h => absurd h (Nat.not_lt_zero _)
  | 0, n, f + 1, ⟨j, a, b⟩, hn, _ => by
    have : j = 0 := by omega
    subst this
    have e := h1 n (by omega)
    rw [show n + 0 = n from rfl] at b
    rw [b] at e
    simp [whL, e, bordF]
  | k + 1, n, f + 1, ⟨j, a, b⟩, hn, hf => by
    have e := h1 n (by omega)
    cases hh : hit R n with
    | false =>
      rw [hh] at e
      simp [whL, e, bordF, hh]
    | true =>
      rw [hh] at e
      have ih := whL_bord h1 h2 k (n + 1) f (by
        cases j with
        | zero => rw [show n + 0 = n from rfl, hh] at b; cases b
        | succ j => exact ⟨j, by omega, by rw [show n + 1 + j = n + (j + 1) by omega]; exact b⟩) (by omega) (by omega)
      simp [whL, e, h2 n (by omega), bordF, hh, ih]
theorem fstr (n : Nat) (h : n ≤ 1000000) : fStrI (.int (n : Int)) = some (.str (numT n)) := by
  have h1 : (0 : Int) ≤ (n : Int) := by omega
  have h2 : (n : Int) < 18446744073709551616 := by omega
  simp [fStrI, h1, h2]
theorem num_len (n : Nat) (h : n ≤ 1000000) : (numT n).length ≤ 8 := (val_num 7 n (by omega)).2.1
theorem num3 (k n : Nat) (hk : k ≤ 100) (hn : n ≤ 900000) : k + (numT n).length ≤ 10000 := by
  have := num_len n (by omega)
  omega
theorem ffs (t s : Tx) (d : D) (h : fStrI d = some (.str s)) (hl : t.length + s.length ≤ 10000) : fFs t d = some (.str (t ++ s)) := by
  unfold fFs
  rw [h]
  show (if decide (t.length + s.length ≤ 10000) then _ else _) = _
  rw [decide_eq_true hl]
  rfl
theorem bof_c (R : List Tx) (hR : R.length ≤ 100000) (n : Nat) (hn : n ≤ 900000) : lc1_border_of [some (.lst false (R.map .str)), some (.int (n : Int)), none] = .ok (.bl (hit R n)) := by
  have hL := line_ge
  have hf : fFs t_b_563a (.int (n : Int)) = some (.str ([45, 45, 98] ++ numT n)) := ffs _ _ _ (fstr n (by omega)) (num3 3 n (by omega) hn)
  have hm : compL (cN 2) eYes le1_border_of [some (.lst false (R.map .str)), some (.int (n : Int)), none] (R.map .str) = .ok (R.map fun r => .bl (preT ([45, 45, 98] ++ numT n) r)) := by
    refine compL_mapf (t := D.str) R fun r hr => ?_
    have hs : fStarts (.str r) (.str ([45, 45, 98] ++ numT n)) = some (.bl (preT ([45, 45, 98] ++ numT n) r)) := rfl
    generalize [45, 45, 98] ++ numT n = P at *
    simp_arith! [le1_border_of, hf, hs]
  have ha : fAny (.lst true (R.map fun r => .bl (preT ([45, 45, 98] ++ numT n) r))) = some (.bl (hit R n)) := by
    have : boolsD (R.map fun r => .bl (preT ([45, 45, 98] ++ numT n) r)) = some (R.map fun r => preT ([45, 45, 98] ++ numT n) r) := by
      generalize [45, 45, 98] ++ numT n = P
      induction R with
      | nil => rfl
      | cons r R ih => simp [boolsD, ih (by simp at hR; omega)]
    simp only [fAny, this, Option.map_some, hit, List.any_map]; rfl
  have hl : (R.map fun r => D.bl (preT ([45, 45, 98] ++ numT n) r)).length ≤ LINE := by rw [List.length_map]; omega
  generalize (R.map fun r => D.bl (preT ([45, 45, 98] ++ numT n) r)) = Z at *
  simp_arith! [lc1_border_of, hm, ha, hl]
theorem border_of_eq (R : List Tx) (hR : R.length ≤ 100000) : d_border_of [.lst false (R.map .str)] = .ok (.str (bordT R)) := by
  have hL := line_ge
  have hw := whL_bord (c := lc1_border_of) (body := lb1_border_of) (R := R) (E0 := fun n => [some (.lst false (R.map .str)), some (.int (n : Int)), none]) (bof_c R hR) (fun n hn => by
    have ha : fAdd (.int (n : Int)) (.int 1) = some (.int ((n + 1 : Nat) : Int)) := by simp [fAdd]
    simp_arith! [lb1_border_of, ha]) (9 * R.length) 0 1000000 (by
      obtain ⟨n, h1, h2⟩ := miss R hR
      exact ⟨n, h1, by simpa using h2⟩) (by omega) (by omega)
  have h0 := bordN_le R hR
  have hb : fFs t_b (.int (bordN R : Int)) = some (.str (bordT R)) := ffs _ _ _ (fstr (bordN R) (by omega)) (num3 1 _ (by omega) h0)
  rw [show ((0 : Nat) : Int) = 0 from rfl, show bordF R (9 * R.length) 0 = bordN R from rfl] at hw
  generalize bordN R = N at *
  simp_arith! [d_border_of, b_border_of, hw, hb]
end Lk21
set_option maxHeartbeats 1000000
namespace Lk21
open G
theorem ne_nil_strs (ts : List Tx) : fNe (.lst true (ts.map .str)) (.lst true []) = some (.bl (!ts.isEmpty)) := by
  rw [fNe_pl (by simp) (by simp) (by simp) (by simp)]
  cases ts <;> simp [D.eqv, eqvs]
theorem fadd3 (n : Nat) (hn : n ≤ 900000) (t : Tx) (ht : t.length ≤ 100) : fAdd (.str t) (.str (numT n)) = some (.str (t ++ numT n)) := by
  have := num3 t.length n ht hn
  have hL := line_ge
  have h : t.length + (numT n).length ≤ LINE := by omega
  simp only [fAdd, h, if_true]
theorem bl_c (R : List Tx) (hR : R.length ≤ 100000) (hl : ∀ r ∈ R, r.length ≤ 10000) (n : Nat) (hn : n ≤ 900000) : lc1__law_border [some (.lst false (R.map .str)), some (.int (n : Int)), none] = .ok (.bl (hit R n)) := by
  have hL := line_ge
  have hs := fstr n (by omega)
  have ha := fadd3 n hn [45, 45, 98] (by decide)
  have hP : ([45, 45, 98] ++ numT n : Tx).length ≤ 10000 := by rw [List.length_append]; exact num3 3 n (by omega) hn
  have hh : ∀ r : Tx, preT ([45, 45, 98] ++ numT n) r = decide (r.take ([45, 45, 98] ++ numT n).length = [45, 45, 98] ++ numT n) := fun r => by
    unfold preT
    rw [Bool.eq_iff_iff]; simp
  have hit_eq : hit R n = !(R.filter fun r => decide (r.take ([45, 45, 98] ++ numT n).length = [45, 45, 98] ++ numT n)).isEmpty := by
    unfold hit
    generalize [45, 45, 98] ++ numT n = P at *
    induction R with
    | nil => rfl
    | cons r R ih =>
      rw [List.any_cons, List.filter_cons, hh r]
      by_cases hr : r.take P.length = P
      · simp [hr]
      · simp only [hr, decide_false, Bool.false_or, Bool.false_eq_true, if_false]
        exact ih (by simp at hR; omega) fun r hr => hl r (by simp [hr])
  rw [hit_eq]
  have hm : compL (cN 2) li1__law_border le1__law_border [some (.lst false (R.map .str)), some (.int (n : Int)), none] (R.map .str) = .ok ((R.filter fun r => decide (r.take ([45, 45, 98] ++ numT n).length = [45, 45, 98] ++ numT n)).map .str) := by
    refine compL_filterf (t := D.str) (g := D.str) R fun r hr => ?_
    have hrl := hl r hr
    generalize [45, 45, 98] ++ numT n = P at *
    have e1 : fLen (.str P) = some (.int (P.length : Int)) := by
      have : P.length ≤ LINE := by omega
      simp [fLen, this]
    have e2 : cutD (.str r) none (some (P.length : Int)) = some (.str (r.take P.length)) := by
      have : r.length ≤ LINE := by omega
      simp only [cutD, this, if_true]; rw [cut_hiN]
    have e3 : fEq (.str (r.take P.length)) (.str P) = some (.bl (decide (r.take P.length = P))) := by
      rw [fEq_pl (by simp) (by simp) (by simp) (by simp)]
      have : (r.take P.length == P) = decide (r.take P.length = P) := by rw [Bool.eq_iff_iff]; simp
      show some (D.bl (r.take P.length == P)) = _
      rw [this]
    refine ⟨?_, ?_⟩
    · show _ = Res.ok (D.bl (decide (r.take P.length = P)))
      generalize numT n = N at *
      simp_arith! [li1__law_border, t_b_563a, hs, ha, e1, e2, e3]
      all_goals (first | rfl | (congr 2; rw [Bool.eq_iff_iff]; simp))
    · simp_arith! [le1__law_border]
  have hll : ((R.filter fun r => decide (r.take ([45, 45, 98] ++ numT n).length = [45, 45, 98] ++ numT n)).map D.str).length ≤ LINE := by
    have := List.length_filter_le (fun r => decide (r.take ([45, 45, 98] ++ numT n).length = [45, 45, 98] ++ numT n)) R
    rw [List.length_map]; omega
  have hne := ne_nil_strs (R.filter fun r => decide (r.take ([45, 45, 98] ++ numT n).length = [45, 45, 98] ++ numT n))
  generalize (R.filter fun r => decide (r.take ([45, 45, 98] ++ numT n).length = [45, 45, 98] ++ numT n)) = F at *
  simp_arith! [lc1__law_border, hm, hne, hll]
  all_goals (cases F <;> rfl)
theorem law_border_eq (R : List Tx) (hR : R.length ≤ 100000) (hl : ∀ r ∈ R, r.length ≤ 10000) : d__law_border [.lst false (R.map .str)] = .ok (.str (bordT R)) := by
  have hL := line_ge
  have hw := whL_bord (c := lc1__law_border) (body := lb1__law_border) (R := R) (E0 := fun n => [some (.lst false (R.map .str)), some (.int (n : Int)), none]) (bl_c R hR hl) (fun n hn => by
    have ha : fAdd (.int (n : Int)) (.int 1) = some (.int ((n + 1 : Nat) : Int)) := by simp [fAdd]
    simp_arith! [lb1__law_border, ha]) (9 * R.length) 0 1000000 (by
      obtain ⟨n, h1, h2⟩ := miss R hR
      exact ⟨n, h1, by simpa using h2⟩) (by omega) (by omega)
  have h0 := bordN_le R hR
  have hs := fstr (bordN R) (by omega)
  have hb : fAdd (.str [98]) (.str (numT (bordN R))) = some (.str (bordT R)) := fadd3 _ h0 [98] (by decide)
  rw [show ((0 : Nat) : Int) = 0 from rfl, show bordF R (9 * R.length) 0 = bordN R from rfl] at hw
  generalize bordT R = B at *
  generalize bordN R = N at *
  generalize numT N = T at *
  simp_arith! [d__law_border, b__law_border, t_b, hw, hs, hb]
end Lk21
set_option maxHeartbeats 1000000
namespace Lk21
open G
structure Hd where
  w : Tx
  ws : List Tx
def Hd.ok (h : Hd) : Prop := (F.okw h.w = true ∧ h.w ≠ t_body) ∧ (h.ws ≠ [] ∧ h.ws.length ≤ 100) ∧ (∀ w ∈ h.ws, 1 ≤ w.length ∧ w.length ≤ 59) ∧ ∀ w ∈ h.ws, ∀ c ∈ w, c ∈ F.SG.drop 1
def Hd.v (h : Hd) : Tx := joinT [32] h.ws
def Hd.rows (h : Hd) : List Tx := F.fin (F.run (F.hd [h.w]) h.ws)
def hdrD (o : Bool) (n v : Tx) : D := .ins o "Header" ["name", "known"] [.str n, .str v]
theorem hrows_len (h : Hd) (ok : h.ok) : h.rows.length ≤ 101 ∧ ∀ r ∈ h.rows, r.length ≤ 60 := by
  obtain ⟨⟨a1, a2⟩, ⟨b0, b1⟩, b2, b3⟩ := ok
  have hh := F.hd_len [h.w] (by simp) (by simpa using a1)
  obtain ⟨c1, c2, c3⟩ := F.run_ok (F.hd [h.w]) hh h.ws (fun w hw => (b2 w hw).2) h.ws.length (Nat.le_refl _)
  rw [List.take_length] at c1 c2 c3
  unfold Hd.rows F.fin
  refine ⟨by simp; omega, fun r hr => ?_⟩
  rcases List.mem_append.mp hr with z | z
  · exact c2 r z
  · have : r = (F.run (F.hd [h.w]) h.ws).2 := by simpa using z
    subst this; exact c1
theorem fold_h (h : Hd) (ok : h.ok) : d_folded [.str h.w, .str h.v] = .ok (.lst true (h.rows.map .str)) := by
  obtain ⟨⟨a1, a2⟩, ⟨b0, b1⟩, b2, b3⟩ := ok
  exact F.folded_eq [h.w] (by simp) (by simpa using a1) (by simp) h.ws b2 b1 b3
theorem lfold_h (h : Hd) (ok : h.ok) : d__law_folded [.str h.w, .str h.v] = .ok (.lst true (h.rows.map .str)) := by
  obtain ⟨⟨a1, a2⟩, ⟨b0, b1⟩, b2, b3⟩ := ok
  exact F.law_folded_eq h.w a1 h.ws b2 b0 b1 b3
inductive Tr where
  | nd (hs : List Hd) (rs : List Tx) (ps : List Tr)
def okR (r : Tx) : Prop := (1 ≤ r.length ∧ r.length ≤ 60) ∧ (∀ c ∈ r, 32 ≤ c ∧ c ≤ 126 ∧ c ≠ 37) ∧ r.getLast? ≠ some 32
def okT : Nat → Tr → Prop
  | 0, _ => False
  | k + 1, .nd hs rs ps => (∀ h ∈ hs, h.ok) ∧ (∀ r ∈ rs, okR r) ∧ (rs = [] ∨ ps = []) ∧ ps.length ≤ 8 ∧ ∀ p ∈ ps, okT k p
def szT : Nat → Tr → Nat
  | 0, _ => 1
  | k + 1, .nd hs rs ps => 1 + hs.length + rs.length + (ps.map (szT k)).sum
def plainR (rs : List Tx) : List Tx := if rs = [] then [[]] else rs
def wrapR (b : Tx) (gs : List (List Tx)) : List Tx := gs.flatMap fun g => ([45, 45] ++ b) :: g
def due : Nat → Tr → List Tx
  | 0, _ => []
  | k + 1, .nd hs rs ps => hs.flatMap Hd.rows ++ match ps with
    | [] => [t_Bodyplai_7ed4, []] ++ plainR rs
    | _ => [t_Bodypiec_dfb6 ++ bordT (ps.map (due k)).flatten, []] ++ wrapR (bordT (ps.map (due k)).flatten) (ps.map (due k)) ++ [[45, 45] ++ bordT (ps.map (due k)).flatten ++ [45, 45]]
theorem bord_len (R : List Tx) (hR : R.length ≤ 100000) : (bordT R).length ≤ 9 := by
  have := num_len (bordN R) (by have := bordN_le R hR; omega)
  simp only [bordT, List.length_cons]; omega
theorem flat_sum {α : Type} (gs : List (List α)) : gs.flatten.length = (gs.map List.length).sum := by simp
theorem wrap_len (b : Tx) (gs : List (List Tx)) : (wrapR b gs).length = gs.length + gs.flatten.length := by
  induction gs with
  | nil => rfl
  | cons g gs ih =>
    simp only [wrapR] at ih
    simp only [wrapR, List.flatMap_cons, List.length_append, List.length_cons, List.flatten_cons, ih]; omega
theorem sz_pos (k : Nat) (t : Tr) : 1 ≤ szT k t := by
  cases k with
  | zero => exact Nat.le_refl _
  | succ k => cases t with | nd hs rs ps => simp only [szT]; omega
theorem sum_ge {α : Type} (f : α → Nat) : ∀ l : List α, (∀ a ∈ l, 1 ≤ f a) → l.length ≤ (l.map f).sum
  | [], _ => by simp
  | a :: l, h => by
    have h1 := h a (by simp)
    have h2 := sum_ge f l fun b hb => h b (by simp [hb])
    simp only [List.map_cons, List.sum_cons, List.length_cons]; omega
theorem sum_mul {α : Type} (f g : α → Nat) (m : Nat) : ∀ l : List α, (∀ a ∈ l, f a ≤ m * g a) → (l.map f).sum ≤ m * (l.map g).sum
  | [], _ => by simp
  | a :: l, h => by
    have h1 := h a (by simp)
    have h2 := sum_mul f g m l fun b hb => h b (by simp [hb])
    simp only [List.map_cons, List.sum_cons, Nat.mul_add]; omega
theorem sum_mem {α : Type} (f : α → Nat) : ∀ (l : List α) (a : α), a ∈ l → f a ≤ (l.map f).sum
  | b :: l, a, h => by
    simp only [List.map_cons, List.sum_cons]
    rcases List.mem_cons.mp h with z | z
    · subst z; omega
    · have := sum_mem f l a z; omega
theorem hs_len (hs : List Hd) (ok : ∀ h ∈ hs, h.ok) : (hs.flatMap Hd.rows).length ≤ 101 * hs.length ∧ ∀ r ∈ hs.flatMap Hd.rows, r.length ≤ 60 := by
  refine ⟨len_flat _ 101 hs fun h hh => (hrows_len h (ok h hh)).1, fun r hr => ?_⟩
  obtain ⟨h, hh, hr⟩ := List.mem_flatMap.mp hr
  exact (hrows_len h (ok h hh)).2 r hr
theorem due_len : ∀ (k : Nat) (t : Tr), okT k t → szT k t ≤ 100 → (due k t).length ≤ 110 * szT k t ∧ ∀ r ∈ due k t, r.length ≤ 100
  | 0, t, h, _ => h.elim
  | k + 1, .nd hs rs ps, ⟨h1, h2, h3, h4, h5⟩, hz => by
    obtain ⟨a1, a2⟩ := hs_len hs h1
    simp only [szT] at hz
    have ih : ∀ p ∈ ps, (due k p).length ≤ 110 * szT k p ∧ ∀ r ∈ due k p, r.length ≤ 100 := fun p hp => due_len k p (h5 p hp) (by
      have := sum_mem (szT k) ps p hp
      omega)
    have hfl : (ps.map (due k)).flatten.length ≤ 110 * (ps.map (szT k)).sum := by
      rw [flat_sum, List.map_map]
      exact sum_mul _ _ 110 ps fun p hp => (ih p hp).1
    have hps := sum_ge (szT k) ps fun p _ => sz_pos k p
    cases ps with
    | nil =>
      have hpl : (plainR rs).length ≤ rs.length + 1 ∧ ∀ r ∈ plainR rs, r.length ≤ 60 := by
        unfold plainR
        split
        · rename_i z; subst z; exact ⟨by simp, by simp⟩
        · exact ⟨by omega, fun r hr => (h2 r hr).1.2⟩
      refine ⟨?_, fun r hr => ?_⟩
      · simp only [due, szT, List.length_append, List.length_cons, List.length_nil, List.map_nil, List.sum_nil]; omega
      · simp only [due] at hr
        rcases List.mem_append.mp hr with hr | hr
        · exact Nat.le_trans (a2 r hr) (by omega)
        · rcases List.mem_append.mp hr with hr | hr
          · rcases List.mem_cons.mp hr with hr | hr
            · subst hr; decide
            · have : r = [] := by simpa using hr
              subst this; simp
          · exact Nat.le_trans (hpl.2 r hr) (by omega)
    | cons p0 ps =>
      generalize hP : p0 :: ps = PS at *
      have hd : due (k + 1) (.nd hs rs PS) = hs.flatMap Hd.rows ++ ([t_Bodypiec_dfb6 ++ bordT (PS.map (due k)).flatten, []] ++ wrapR (bordT (PS.map (due k)).flatten) (PS.map (due k)) ++ [[45, 45] ++ bordT (PS.map (due k)).flatten ++ [45, 45]]) := by
        rw [← hP]; rfl
      rw [hd]
      have hb := bord_len (PS.map (due k)).flatten (by omega)
      have hw := wrap_len (bordT (PS.map (due k)).flatten) (PS.map (due k))
      have hwm : ∀ r ∈ wrapR (bordT (PS.map (due k)).flatten) (PS.map (due k)), r.length ≤ 100 := fun r hr => by
        obtain ⟨g, hg, hr⟩ := List.mem_flatMap.mp hr
        obtain ⟨p, hp, rfl⟩ := List.mem_map.mp hg
        rcases List.mem_cons.mp hr with hr | hr
        · subst hr; simp only [List.length_append, List.length_cons, List.length_nil]; omega
        · exact (ih p hp).2 r hr
      have hbp : t_Bodypiec_dfb6.length = 13 := by decide
      rw [List.length_map] at hw
      generalize bordT (PS.map (due k)).flatten = B at *
      generalize (PS.map (due k)).flatten = FL at *
      generalize wrapR B (PS.map (due k)) = WR at *
      refine ⟨?_, fun r hr => ?_⟩
      · simp only [szT, List.length_append, List.length_cons, List.length_nil]; omega
      · rcases List.mem_append.mp hr with hr | hr
        · exact Nat.le_trans (a2 r hr) (by omega)
        · rcases List.mem_append.mp hr with hr | hr
          · rcases List.mem_append.mp hr with hr | hr
            · rcases List.mem_cons.mp hr with hr | hr
              · subst hr; rw [List.length_append]; omega
              · have : r = [] := by simpa using hr
                subst this; simp
            · exact hwm r hr
          · have : r = [45, 45] ++ B ++ [45, 45] := by simpa using hr
            subst this; simp only [List.length_append, List.length_cons, List.length_nil]; omega
end Lk21
set_option maxHeartbeats 1000000
namespace Lk21
open G
abbrev KS : List KD := [.inr t_headers, .inr t_rows, .inr t_pieces]
def hpD (h : Hd) : D := .tup false [.str h.w, .str h.v]
def tD : Nat → Tr → D
  | 0, _ => .non
  | k + 1, .nd hs rs ps => .dic false KS [.lst false (hs.map hpD), .lst false (rs.map .str), .lst false (ps.map (tD k))]
theorem hp_sh (hs : List Hd) : shs (hs.map hpD) = true := by
  induction hs with
  | nil => rfl
  | cons h hs ih => rw [List.map_cons, shs_cons, ih]; rfl
theorem td_sh : ∀ (k : Nat) (t : Tr), (tD k t).sh = true
  | 0, _ => rfl
  | k + 1, .nd hs rs ps => by
    have h3 : shs (ps.map (tD k)) = true := by
      induction ps with
      | nil => rfl
      | cons p ps ih => rw [List.map_cons, shs_cons, ih, td_sh k p]; rfl
    show (!false && shs [.lst false (hs.map hpD), .lst false (rs.map .str), .lst false (ps.map (tD k))]) = true
    rw [shs_cons, shs_cons, shs_cons, shs_nil, sh_lst, sh_lst, sh_lst, hp_sh, shs_str, h3]; rfl
theorem add_rows (o : Bool) (A B : List Tx) (h : A.length + B.length ≤ 100000) : fAdd (.lst true (A.map .str)) (.lst o (B.map .str)) = some (.lst true ((A ++ B).map .str)) := by
  have hL := line_ge
  have s1 : shs (A.map D.str) = true := shs_str _
  have s2 : shs (B.map D.str) = true := shs_str _
  have hq2 : (A.map D.str).length + (B.map D.str).length ≤ LINE := by rw [List.length_map, List.length_map]; omega
  simp only [fAdd, s1, s2, hq2, decide_true, Bool.and_self, if_true, List.map_append]
theorem ldue_loop (r : List D → Res D) (x0 x2 x3 x4 x5 x8 : Option D) : ∀ (hs : List Hd) (R : List Tx) (j6 j7 : Option D), (∀ h ∈ hs, h.ok) → R.length + 101 * hs.length ≤ 50000 →
    ∃ k6 k7, forL (bT [6, 7]) (lb1__law_due r) (hs.map hpD) [x0, some (.lst true (R.map .str)), x2, x3, x4, x5, j6, j7, x8] = .nx [x0, some (.lst true ((R ++ hs.flatMap Hd.rows).map .str)), x2, x3, x4, x5, k6, k7, x8]
  | [], R, j6, j7, _, _ => ⟨j6, j7, by simp [forL]⟩
  | h :: hs, R, j6, j7, ok, hl => by
    have ok1 := ok h (by simp)
    have h1 := (hrows_len h ok1).1
    simp only [List.length_cons] at hl
    obtain ⟨k6, k7, ih⟩ := ldue_loop r x0 x2 x3 x4 x5 x8 hs (R ++ h.rows) (some (.str h.w)) (some (.str h.v)) (fun x hx => ok x (List.mem_cons_of_mem _ hx)) (by rw [List.length_append]; omega)
    have hf := lfold_h h ok1
    have ha := add_rows true R h.rows (by omega)
    refine ⟨k6, k7, ?_⟩
    have e1 : R ++ (h :: hs).flatMap Hd.rows = (R ++ h.rows) ++ hs.flatMap Hd.rows := by simp
    rw [e1, ← ih]
    simp only [List.map_cons, forL, hpD]
    generalize (R ++ h.rows).map D.str = Z at *
    generalize R.map D.str = Y at *
    generalize h.rows.map D.str = X at *
    generalize h.v = v at *
    generalize h.w = w at *
    simp_arith! [lb1__law_due, hf, ha]
def rowD (o : Bool) (g : List Tx) : D := .lst o (g.map .str)
theorem row_sh (g : List Tx) : (rowD false g).sh = true := by unfold rowD; rw [sh_lst, shs_str]; rfl
theorem lb2_loop (r : List D → Res D) (x0 x1 x2 x5 x6 x7 x8 : Option D) : ∀ (gs : List (List Tx)) (R : List Tx) (j4 : Option D), R.length + gs.flatten.length ≤ 50000 →
    ∃ k4, forL (bN 4) (lb2__law_due r) (gs.map (rowD false)) [x0, x1, x2, some (.lst true (R.map .str)), j4, x5, x6, x7, x8] = .nx [x0, x1, x2, some (.lst true ((R ++ gs.flatten).map .str)), k4, x5, x6, x7, x8]
  | [], R, j4, _ => ⟨j4, by simp [forL]⟩
  | g :: gs, R, j4, hl => by
    simp only [List.flatten_cons, List.length_append] at hl
    obtain ⟨k4, ih⟩ := lb2_loop r x0 x1 x2 x5 x6 x7 x8 gs (R ++ g) (some (rowD false g)) (by rw [List.length_append]; omega)
    have ha : fAdd (.lst true (R.map .str)) (rowD false g) = some (.lst true ((R ++ g).map .str)) := add_rows false R g (by omega)
    refine ⟨k4, ?_⟩
    have e1 : R ++ (g :: gs).flatten = (R ++ g) ++ gs.flatten := by simp
    rw [e1, ← ih]
    simp only [List.map_cons, forL]
    have hsh := row_sh g
    generalize rowD false g = G0 at *
    generalize (R ++ g).map D.str = Z at *
    generalize R.map D.str = Y at *
    simp_arith! [lb2__law_due, ha, hsh]
theorem lb3_loop (r : List D → Res D) (b : Tx) (hb : b.length ≤ 100) (x0 x2 x3 x6 x7 x8 : Option D) : ∀ (gs : List (List Tx)) (R : List Tx) (j4 : Option D), R.length + gs.length + gs.flatten.length ≤ 50000 →
    ∃ k4, forL (bN 4) (lb3__law_due r) (gs.map (rowD false)) [x0, some (.lst true (R.map .str)), x2, x3, j4, some (.str b), x6, x7, x8] = .nx [x0, some (.lst true ((R ++ wrapR b gs).map .str)), x2, x3, k4, some (.str b), x6, x7, x8]
  | [], R, j4, _ => ⟨j4, by simp [forL, wrapR]⟩
  | g :: gs, R, j4, hl => by
    have hL := line_ge
    simp only [List.flatten_cons, List.length_append, List.length_cons] at hl
    obtain ⟨k4, ih⟩ := lb3_loop r b hb x0 x2 x3 x6 x7 x8 gs (R ++ [[45, 45] ++ b] ++ g) (some (rowD false g)) (by simp only [List.length_append, List.length_cons, List.length_nil]; omega)
    have a0 : fAdd (.str [45, 45]) (.str b) = some (.str ([45, 45] ++ b)) := by
      have : ([45, 45] : Tx).length + b.length ≤ LINE := by simp; omega
      simp only [fAdd, this, if_true]
    have a1 := add_rows true R [[45, 45] ++ b] (by simp; omega)
    have ha : fAdd (.lst true ((R ++ [[45, 45] ++ b]).map .str)) (rowD false g) = some (.lst true ((R ++ [[45, 45] ++ b] ++ g).map .str)) := add_rows false _ g (by simp; omega)
    refine ⟨k4, ?_⟩
    have e1 : R ++ wrapR b (g :: gs) = (R ++ [[45, 45] ++ b] ++ g) ++ wrapR b gs := by simp [wrapR]
    rw [e1, ← ih]
    rw [show ([[45, 45] ++ b] : List Tx).map D.str = [D.str ([45, 45] ++ b)] from rfl] at a1
    simp only [List.map_cons, forL]
    have hsh := row_sh g
    generalize rowD false g = G0 at *
    generalize (R ++ [[45, 45] ++ b] ++ g).map D.str = Z at *
    generalize (R ++ [[45, 45] ++ b]).map D.str = Z2 at *
    generalize R.map D.str = Y at *
    generalize [45, 45] ++ b = B at *
    simp_arith! [lb3__law_due, t__1465, a0, a1, ha, hsh]
theorem split_rows (rs : List Tx) (h : ∀ r ∈ rs, okR r) : splT [10] 0 [] (joinT [10] rs) = plainR rs := by
  unfold plainR
  split
  · rename_i z; subst z; rfl
  · rename_i z
    exact F.spl_join 10 rs z fun r hr hc => by
      have := (h r hr).2.1 10 hc
      omega
end Lk21
set_option maxHeartbeats 1000000
namespace Lk21
open G
theorem joinL (S : Tx) (W : List Tx) (o : Bool) (m : Nat) (hw : ∀ w ∈ W, w.length ≤ m) (hl : W.length * (m + S.length) ≤ LINE) : fJoin (.str S) (.lst o (W.map .str)) = some (.str (joinT S W)) := by
  have h1 : (W.map List.length).sum ≤ W.length * m := F.sum_le m W hw
  have h2 : (W.map List.length).sum + W.length * S.length ≤ LINE := by rw [Nat.mul_add] at hl; omega
  simp only [fJoin, strsD_map, Option.bind_some, h2, if_true]
theorem joined_len (rs : List Tx) (h : ∀ r ∈ rs, okR r) (hn : rs.length ≤ 100) : (joinT [10] rs).length ≤ 6100 := by
  have := F.joinT_le [10] 60 rs fun r hr => (h r hr).1.2
  simp at this
  have h2 : rs.length * (60 + 1) ≤ 100 * 61 := Nat.mul_le_mul hn (Nat.le_refl _)
  omega
theorem td_frz (k : Nat) (t : Tr) : (tD k t).frz = tD k t := frz_of_sh _ (td_sh k t)
theorem groups_frz (gs : List (List Tx)) : frzs (gs.map (rowD true)) = gs.map (rowD false) := by
  induction gs with
  | nil => rfl
  | cons g gs ih =>
    rw [List.map_cons, List.map_cons, frzs_cons, ih]
    unfold rowD
    rw [frz_lst, frzs_str]
theorem groups_frz2 (gs : List (List Tx)) : frzs (gs.map (rowD false)) = gs.map (rowD false) := by
  induction gs with
  | nil => rfl
  | cons g gs ih =>
    rw [List.map_cons, frzs_cons, ih]
    unfold rowD
    rw [frz_lst, frzs_str]
theorem groups_sh (gs : List (List Tx)) : shs (gs.map (rowD false)) = true := by
  induction gs with
  | nil => rfl
  | cons g gs ih => rw [List.map_cons, shs_cons, row_sh, ih]; rfl
theorem ldue_eq : ∀ (k n : Nat) (t : Tr), okT k t → szT k t ≤ 100 → k ≤ n → d__law_due n [tD k t] = .ok (rowD true (due k t))
  | 0, _, _, h, _, _ => h.elim
  | k + 1, 0, _, _, _, h => absurd h (by omega)
  | k + 1, n + 1, .nd hs rs ps, ⟨h1, h2, h3, h4, h5⟩, hz, hk => by
    have hL := line_ge
    rw [d__law_due_succ]
    simp only [szT] at hz
    have g1 : fDGs (tD (k + 1) (.nd hs rs ps)) (.str t_headers) = some (.lst false (hs.map hpD)) := by
      have : fDG (tD (k + 1) (.nd hs rs ps)) (.str t_headers) = some (.lst false (hs.map hpD)) := rfl
      have h2 : (D.lst false (hs.map hpD)).sh = true := by rw [sh_lst, hp_sh]; rfl
      simp only [fDGs, this, Option.bind_some, h2, if_true]
    have g2 : fDG (tD (k + 1) (.nd hs rs ps)) (.str t_rows) = some (.lst false (rs.map .str)) := rfl
    have g3 : fDG (tD (k + 1) (.nd hs rs ps)) (.str t_pieces) = some (.lst false (ps.map (tD k))) := rfl
    have gf : frzs (hs.map hpD) = hs.map hpD := frzs_of_shs _ (hp_sh hs)
    obtain ⟨a1, a2⟩ := hs_len hs h1
    have hsz := sum_ge (szT k) ps fun p _ => sz_pos k p
    obtain ⟨k6, k7, hloop⟩ := ldue_loop (d__law_due n) (some (tD (k + 1) (.nd hs rs ps))) none none none none none hs [] none none h1 (by simp; omega)
    rw [List.nil_append] at hloop
    rw [show (([] : List Tx).map D.str) = [] from rfl] at hloop
    have hshs := hp_sh hs
    cases ps with
    | nil =>
      have g4 : fEqE (.lst false (([] : List Tr).map (tD k))) (.lst true []) = some (.bl true) := rfl
      have hj := joinL [10] rs false 60 (fun r hr => (h2 r hr).1.2) (by
        have : rs.length * (60 + ([10] : Tx).length) ≤ 100 * 61 := Nat.mul_le_mul (by omega) (Nat.le_refl _)
        omega)
      have hjl := joined_len rs h2 (by omega)
      have hsp : fSplit (.str (joinT [10] rs)) (.str [10]) = some (.lst true ((plainR rs).map .str)) := by
        have : (joinT [10] rs).length + 2 ≤ LINE := Nat.le_trans (by omega : _ ≤ 1000000) hL
        rw [← split_rows rs h2]
        simp [fSplit, this]
      have hpl : (plainR rs).length ≤ 101 := by
        unfold plainR; split
        · simp
        · omega
      have b1 := add_rows true (hs.flatMap Hd.rows) [t_Bodyplai_7ed4, []] (by simp only [List.length_append, List.length_cons, List.length_nil]; omega)
      have b2 := add_rows true (hs.flatMap Hd.rows ++ [t_Bodyplai_7ed4, []]) (plainR rs) (by simp only [List.length_append, List.length_cons, List.length_nil]; omega)
      have hd : due (k + 1) (.nd hs rs []) = hs.flatMap Hd.rows ++ [t_Bodyplai_7ed4, []] ++ plainR rs := by
        show hs.flatMap Hd.rows ++ ([t_Bodyplai_7ed4, []] ++ plainR rs) = _
        rw [List.append_assoc]
      rw [hd]
      rw [show ([t_Bodyplai_7ed4, []] : List Tx).map D.str = [.str t_Bodyplai_7ed4, .str []] from rfl] at b1
      unfold rowD
      generalize (hs.flatMap Hd.rows ++ [t_Bodyplai_7ed4, []] ++ plainR rs).map D.str = Z at *
      generalize (hs.flatMap Hd.rows ++ [t_Bodyplai_7ed4, []]).map D.str = Z2 at *
      generalize (hs.flatMap Hd.rows).map D.str = Z3 at *
      generalize (plainR rs).map D.str = Z4 at *
      generalize hs.map hpD = HS at *
      generalize rs.map D.str = RS at *
      generalize joinT [10] rs = J at *
      generalize tD (k + 1) (.nd hs rs []) = T at *
      generalize ([] : List Tr).map (tD k) = PS at *
      simp_arith! [runF, b__law_due, g1, g2, g3, g4, gf, hshs, hloop, hj, hsp, b1, b2, t__0, t__693]
    | cons p0 ps =>
      generalize hP : p0 :: ps = PS at *
      have g4 : fEqE (.lst false (PS.map (tD k))) (.lst true []) = some (.bl false) := by rw [← hP]; rfl
      have hd : due (k + 1) (.nd hs rs PS) = hs.flatMap Hd.rows ++ [t_Bodypiec_dfb6 ++ bordT (PS.map (due k)).flatten, []] ++ wrapR (bordT (PS.map (due k)).flatten) (PS.map (due k)) ++ [[45, 45] ++ bordT (PS.map (due k)).flatten ++ [45, 45]] := by
        rw [← hP]
        show hs.flatMap Hd.rows ++ (_ ++ _ ++ _) = _
        simp only [List.append_assoc]
      have ih : ∀ p ∈ PS, (due k p).length ≤ 110 * szT k p ∧ ∀ r ∈ due k p, r.length ≤ 100 := fun p hp => due_len k p (h5 p hp) (by
        have := sum_mem (szT k) PS p hp
        omega)
      have hfl : (PS.map (due k)).flatten.length ≤ 110 * (PS.map (szT k)).sum := by
        rw [flat_sum, List.map_map]
        exact sum_mul _ _ 110 PS fun p hp => (ih p hp).1
      have hfm : ∀ r ∈ (PS.map (due k)).flatten, r.length ≤ 10000 := fun r hr => by
        obtain ⟨g, hg, hr⟩ := List.mem_flatten.mp hr
        obtain ⟨p, hp, rfl⟩ := List.mem_map.mp hg
        exact Nat.le_trans ((ih p hp).2 r hr) (by omega)
      have hc : ∀ ρ : Env, ρ.length = 9 → compL (cN 8) eYes (le1__law_due (d__law_due n)) ρ (PS.map (tD k)) = .ok ((PS.map (due k)).map (rowD true)) := fun ρ hρ => by
        rw [List.map_map]
        refine compL_mapf (t := tD k) PS fun p hp => ?_
        have hr := ldue_eq k n p (h5 p hp) (by
          have := sum_mem (szT k) PS p hp
          omega) (by omega)
        have hf := td_frz k p
        have hsh := td_sh k p
        obtain ⟨y0, y1, y2, y3, y4, y5, y6, y7, y8, rfl⟩ : ∃ y0 y1 y2 y3 y4 y5 y6 y7 y8, ρ = [y0, y1, y2, y3, y4, y5, y6, y7, y8] := by
          rcases ρ with _ | ⟨y0, _ | ⟨y1, _ | ⟨y2, _ | ⟨y3, _ | ⟨y4, _ | ⟨y5, _ | ⟨y6, _ | ⟨y7, _ | ⟨y8, _ | ⟨y9, r⟩⟩⟩⟩⟩⟩⟩⟩⟩⟩ <;> simp at hρ
          exact ⟨y0, y1, y2, y3, y4, y5, y6, y7, y8, rfl⟩
        show _ = Res.ok (rowD true (due k p))
        generalize tD k p = T at *
        generalize rowD true (due k p) = Z at *
        simp_arith! [le1__law_due, hf, hsh, hr]
      have hbl := bord_len (PS.map (due k)).flatten (by omega)
      have hbe := law_border_eq (PS.map (due k)).flatten (by omega) hfm
      have hwl := wrap_len (bordT (PS.map (due k)).flatten) (PS.map (due k))
      rw [List.length_map] at hwl
      obtain ⟨k4, l2⟩ := lb2_loop (d__law_due n) (some (tD (k + 1) (.nd hs rs PS))) (some (.lst true ((hs.flatMap Hd.rows).map .str))) (some (.lst false ((PS.map (due k)).map (rowD false)))) none k6 k7 none (PS.map (due k)) [] none (by simp only [List.length_nil]; omega)
      rw [List.nil_append, show (([] : List Tx).map D.str) = [] from rfl] at l2
      obtain ⟨k4', l3⟩ := lb3_loop (d__law_due n) (bordT (PS.map (due k)).flatten) (by omega) (some (tD (k + 1) (.nd hs rs PS))) (some (.lst false ((PS.map (due k)).map (rowD false)))) (some (.lst true ((PS.map (due k)).flatten.map .str))) k6 k7 none (PS.map (due k)) (hs.flatMap Hd.rows ++ [t_Bodypiec_dfb6 ++ bordT (PS.map (due k)).flatten, []]) k4 (by simp only [List.length_append, List.length_cons, List.length_nil, List.length_map]; omega)
      have f1 := groups_frz (PS.map (due k))
      have f2 := groups_frz2 (PS.map (due k))
      have f3 := groups_sh (PS.map (due k))
      have f4 := frzs_str (PS.map (due k)).flatten
      have f5 := shs_str (PS.map (due k)).flatten
      have b1 := add_rows true (hs.flatMap Hd.rows) [t_Bodypiec_dfb6 ++ bordT (PS.map (due k)).flatten, []] (by simp only [List.length_append, List.length_cons, List.length_nil]; omega)
      rw [show ([t_Bodypiec_dfb6 ++ bordT (PS.map (due k)).flatten, []] : List Tx).map D.str = [.str (t_Bodypiec_dfb6 ++ bordT (PS.map (due k)).flatten), .str []] from rfl] at b1
      have b2 := add_rows true (hs.flatMap Hd.rows ++ [t_Bodypiec_dfb6 ++ bordT (PS.map (due k)).flatten, []] ++ wrapR (bordT (PS.map (due k)).flatten) (PS.map (due k))) [[45, 45] ++ bordT (PS.map (due k)).flatten ++ [45, 45]] (by simp only [List.length_append, List.length_cons, List.length_nil]; omega)
      rw [show ([[45, 45] ++ bordT (PS.map (due k)).flatten ++ [45, 45]] : List Tx).map D.str = [.str ([45, 45] ++ bordT (PS.map (due k)).flatten ++ [45, 45])] from rfl] at b2
      rw [← hd] at b2
      have c1 : fAdd (.str t_Bodypiec_dfb6) (.str (bordT (PS.map (due k)).flatten)) = some (.str (t_Bodypiec_dfb6 ++ bordT (PS.map (due k)).flatten)) := by
        have : t_Bodypiec_dfb6.length + (bordT (PS.map (due k)).flatten).length ≤ LINE := by
          have : t_Bodypiec_dfb6.length = 13 := by decide
          omega
        simp only [fAdd, this, if_true]
      have c2 : fAdd (.str [45, 45]) (.str (bordT (PS.map (due k)).flatten)) = some (.str ([45, 45] ++ bordT (PS.map (due k)).flatten)) := by
        have : ([45, 45] : Tx).length + (bordT (PS.map (due k)).flatten).length ≤ LINE := by simp; omega
        simp only [fAdd, this, if_true]
      have c3 : fAdd (.str ([45, 45] ++ bordT (PS.map (due k)).flatten)) (.str [45, 45]) = some (.str ([45, 45] ++ bordT (PS.map (due k)).flatten ++ [45, 45])) := by
        have : ([45, 45] ++ bordT (PS.map (due k)).flatten : Tx).length + ([45, 45] : Tx).length ≤ LINE := by simp; omega
        simp only [fAdd, this, if_true]
      have hlc : ((PS.map (due k)).map (rowD true)).length ≤ LINE := by rw [List.length_map, List.length_map]; omega
      have hc1 := hc [some (tD (k + 1) (.nd hs rs PS)), some (.lst true ((hs.flatMap Hd.rows).map .str)), none, none, none, none, k6, k7, none] rfl
      show _ = Res.ok (D.lst true ((due (k + 1) (.nd hs rs PS)).map D.str))
      clear hc hd hfm ih hwl hfl hbl a1 a2 hsz h3 h4 h5 hz
      generalize (due (k + 1) (.nd hs rs PS)).map D.str = Z0 at *
      generalize (hs.flatMap Hd.rows ++ [t_Bodypiec_dfb6 ++ bordT (PS.map (due k)).flatten, []] ++ wrapR (bordT (PS.map (due k)).flatten) (PS.map (due k))).map D.str = Z1 at *
      generalize (hs.flatMap Hd.rows ++ [t_Bodypiec_dfb6 ++ bordT (PS.map (due k)).flatten, []]).map D.str = Z2 at *
      generalize (hs.flatMap Hd.rows).map D.str = Z3 at *
      generalize [45, 45] ++ bordT (PS.map (due k)).flatten ++ [45, 45] = E1 at *
      generalize [45, 45] ++ bordT (PS.map (due k)).flatten = E2 at *
      generalize t_Bodypiec_dfb6 ++ bordT (PS.map (due k)).flatten = E3 at *
      generalize bordT (PS.map (due k)).flatten = B at *
      generalize (PS.map (due k)).flatten.map D.str = FL at *
      generalize (PS.map (due k)).map (rowD true) = G1 at *
      generalize (PS.map (due k)).map (rowD false) = G2 at *
      generalize hs.map hpD = HS at *
      generalize rs.map D.str = RS at *
      generalize tD (k + 1) (.nd hs rs PS) = T at *
      generalize PS.map (tD k) = PD at *
      simp_arith! [runF, b__law_due, g1, g2, g3, g4, gf, hshs, hloop, hc1, hlc, f1, f2, f3, f4, f5, l2, l3, hbe, b1, b2, c1, c2, c3, t__0, t__1465]
end Lk21
set_option maxHeartbeats 1000000
namespace Lk21
open G
def hD (o : Bool) (h : Hd) : D := hdrD o h.w h.v
def bytesOf (rs : List Tx) : List Int := (joinT [10] rs).map Int.ofNat
def pD : Nat → Tr → D
  | 0, _ => .non
  | k + 1, .nd hs rs ps => .ins false "Piece" ["headers", "row", "pieces"] [.lst false (hs.map (hD false)), (match ps with | [] => .lst false ((bytesOf rs).map .int) | _ => .non), (match ps with | [] => .non | _ => .lst false (ps.map (pD k)))]
theorem hD_sh (hs : List Hd) : shs (hs.map (hD false)) = true := by
  induction hs with
  | nil => rfl
  | cons h hs ih => rw [List.map_cons, shs_cons, ih]; rfl
theorem pD_sh : ∀ (k : Nat) (t : Tr), (pD k t).sh = true
  | 0, _ => rfl
  | k + 1, .nd hs rs ps => by
    have h3 : shs (ps.map (pD k)) = true := by
      induction ps with
      | nil => rfl
      | cons p ps ih => rw [List.map_cons, shs_cons, ih, pD_sh k p]; rfl
    cases ps with
    | nil =>
      show (!false && shs [.lst false (hs.map (hD false)), .lst false ((bytesOf rs).map .int), .non]) = true
      rw [shs_cons, shs_cons, shs_cons, shs_nil, sh_lst, hD_sh, sh_lst, shs_int]; rfl
    | cons p ps =>
      show (!false && shs [.lst false (hs.map (hD false)), .non, .lst false ((p :: ps).map (pD k))]) = true
      rw [shs_cons, shs_cons, shs_cons, shs_nil, sh_lst, hD_sh, sh_lst, h3]; rfl
theorem pD_frz (k : Nat) (t : Tr) : (pD k t).frz = pD k t := frz_of_sh _ (pD_sh k t)
theorem fldO (o : Bool) (c n : String) (fs : List String) (vs : List D) (v : D) (hb : fs.contains "!" = false) (hl : lookF n fs vs = some v) : fFldO c n (.ins o c fs vs) = some v := by
  simp [fFldO, hl]
  simpa using hb
theorem q_headers (k : Nat) (hs : List Hd) (rs : List Tx) (ps : List Tr) : fFldO "Piece" "headers" (pD (k + 1) (.nd hs rs ps)) = some (.lst false (hs.map (hD false))) := fldO _ _ _ _ _ _ (by decide) (by simp [lookF])
theorem q_row0 (k : Nat) (hs : List Hd) (rs : List Tx) : fFldO "Piece" "row" (pD (k + 1) (.nd hs rs [])) = some (.lst false ((bytesOf rs).map .int)) := fldO _ _ _ _ _ _ (by decide) (by simp [lookF])
theorem q_pieces0 (k : Nat) (hs : List Hd) (rs : List Tx) : fFldO "Piece" "pieces" (pD (k + 1) (.nd hs rs [])) = some .non := fldO _ _ _ _ _ _ (by decide) (by simp [lookF])
theorem q_row1 (k : Nat) (hs : List Hd) (rs : List Tx) (p : Tr) (ps : List Tr) : fFldO "Piece" "row" (pD (k + 1) (.nd hs rs (p :: ps))) = some .non := fldO _ _ _ _ _ _ (by decide) (by simp [lookF])
theorem q_pieces1 (k : Nat) (hs : List Hd) (rs : List Tx) (p : Tr) (ps : List Tr) : fFldO "Piece" "pieces" (pD (k + 1) (.nd hs rs (p :: ps))) = some (.lst false ((p :: ps).map (pD k))) := fldO _ _ _ _ _ _ (by decide) (by simp [lookF])
theorem h_name (o : Bool) (n v : Tx) : fFldO "Header" "name" (hdrD o n v) = some (.str n) := fldO _ _ _ _ _ _ (by decide) (by simp [lookF])
theorem h_known (o : Bool) (n v : Tx) : fFldO "Header" "known" (hdrD o n v) = some (.str v) := fldO _ _ _ _ _ _ (by decide) (by simp [lookF])
theorem byte_eq (b : Int) (h : B.byt b) : d_is_byte [.int b] = .ok (.bl true) := by
  obtain ⟨h1, h2⟩ := h
  have e1 : fIsT .int (.int b) = some (.bl true) := rfl
  have e2 : fIsT .bool (.int b) = some (.bl false) := rfl
  have e3 : decide ((0 : Int) ≤ b) = true := decide_eq_true h1
  have e4 : decide (b ≤ 255) = true := decide_eq_true (by omega)
  have e5 : fLe (.int 0) (.int b) = some (.bl true) := by simp only [fLe, e3]
  have e6 : fLe (.int b) (.int 255) = some (.bl true) := by simp only [fLe, e4]
  simp_arith! [d_is_byte, b_is_byte, d_is_whole, b_is_whole, e1, e2, e5, e6]
theorem are_bytes_eq (l : List Int) (h : ∀ b ∈ l, B.byt b) (hl : l.length ≤ 100000) : d_are_bytes [.lst false (l.map .int)] = .ok (.bl true) := by
  have hL := line_ge
  have hc : compL (cN 1) eYes le1_are_bytes [some (.lst false (l.map .int)), none] (l.map .int) = .ok (l.map fun _ => .bl true) :=
    compL_mapf l fun b hb => by
      have := byte_eq b (h b hb)
      simp_arith! [le1_are_bytes, this]
  have e1 : fIsT .list (.lst false (l.map .int)) = some (.bl true) := rfl
  have hfa : fAll (.lst true (l.map fun _ => .bl true)) = some (.bl true) := by
    simp only [fAll, boolsD_mapf, Option.map_some]; simp
  have hln : (l.map fun _ => D.bl true).length ≤ LINE := by rw [List.length_map]; omega
  simp_arith! [d_are_bytes, b_are_bytes, e1, hc, hln, hfa]
theorem bytes_ok (rs : List Tx) (h : ∀ r ∈ rs, okR r) : ∀ b ∈ bytesOf rs, B.byt b := by
  intro b hb
  obtain ⟨c, hc, rfl⟩ := List.mem_map.mp hb
  have key : ∀ l : List Tx, (∀ r ∈ l, okR r) → ∀ c ∈ joinT [10] l, c = 10 ∨ 32 ≤ c ∧ c ≤ 126 := by
    intro l
    induction l with
    | nil => intro _ c hc; simp [joinT] at hc
    | cons r l ih =>
      intro hr c hc
      cases l with
      | nil =>
        have : c ∈ r := by simpa [joinT] using hc
        have := (hr r (by simp)).2.1 c this
        omega
      | cons r2 l =>
        have : c ∈ r ++ [10] ++ joinT [10] (r2 :: l) := by simpa [joinT] using hc
        rcases List.mem_append.mp this with z | z
        · rcases List.mem_append.mp z with z | z
          · have := (hr r (by simp)).2.1 c z
            omega
          · exact .inl (by simpa using z)
        · exact ih (fun x hx => hr x (by simp [hx])) c z
  have := key rs h c hc
  show (0 : Int) ≤ Int.ofNat c ∧ Int.ofNat c < 256
  have e : Int.ofNat c = (c : Int) := rfl
  omega
theorem bytes_len (rs : List Tx) (h : ∀ r ∈ rs, okR r) (hn : rs.length ≤ 100) : (bytesOf rs).length ≤ 6100 := by
  unfold bytesOf
  rw [List.length_map]; exact joined_len rs h hn
theorem fold_row (r : List Int) (h : ∀ b ∈ r, b ≠ 10) (a : B.PS) : r.foldl B.pst a = (a.1, a.2 ++ r) := by
  induction r generalizing a with
  | nil => simp
  | cons b r ih =>
    rw [List.foldl_cons, ih (fun x hx => h x (by simp [hx]))]
    simp [B.pst, h b (by simp)]
def iNts (r : Tx) : List Int := r.map Int.ofNat
theorem ints_ne (r : Tx) (h : okR r) : ∀ b ∈ iNts r, b ≠ 10 := by
  intro b hb
  obtain ⟨c, hc, rfl⟩ := List.mem_map.mp hb
  have := h.2.1 c hc
  intro z
  have : (c : Int) = 10 := z
  omega
theorem fold_rows : ∀ (l : List Tx) (a : B.PS), l ≠ [] → (∀ r ∈ l, okR r) → B.pall ((bytesOf l).foldl B.pst a) = a.1 ++ (a.2 ++ iNts (l.headD [])) :: (l.drop 1).map iNts
  | [], _, h, _ => absurd rfl h
  | [r], a, _, h => by
    have : bytesOf [r] = iNts r := by simp [bytesOf, joinT, iNts]
    rw [this, fold_row _ (ints_ne r (h r (by simp)))]
    simp [B.pall]
  | r :: r2 :: l, a, _, h => by
    have e : bytesOf (r :: r2 :: l) = iNts r ++ (10 :: bytesOf (r2 :: l)) := by simp [bytesOf, joinT, iNts]
    rw [e, List.foldl_append, fold_row _ (ints_ne r (h r (by simp))), List.foldl_cons]
    have e2 : B.pst (a.1, a.2 ++ iNts r) 10 = (a.1 ++ [a.2 ++ iNts r], []) := by simp [B.pst]
    rw [e2, fold_rows (r2 :: l) _ (by simp) (fun x hx => h x (by simp only [List.mem_cons] at hx ⊢; exact .inr hx))]
    simp
theorem parts_rows (rs : List Tx) (h : ∀ r ∈ rs, okR r) : B.parts (bytesOf rs) = (plainR rs).map iNts := by
  unfold B.parts plainR
  split
  · rename_i z; subst z; rfl
  · rename_i z
    rw [fold_rows rs _ z h]
    cases rs with
    | nil => exact absurd rfl z
    | cons r rs => simp
theorem tx_ints (r : Tx) : B.txP (iNts r) = r := by
  unfold B.txP iNts
  rw [List.map_map]
  have : (Int.toNat ∘ Int.ofNat) = id := by funext n; rfl
  rw [this, List.map_id]
theorem plain_bytes (rs : List Tx) (h : ∀ r ∈ rs, okR r) : B.plainT (bytesOf rs) = some (plainR rs) := by
  have hp := parts_rows rs h
  have ok : ((bytesOf rs).all B.gd && (B.parts (bytesOf rs)).all B.okRow) = true := by
    rw [Bool.and_eq_true]
    constructor
    · rw [List.all_eq_true]
      intro b hb
      have hbyt := bytes_ok rs h b hb
      obtain ⟨c, hc, rfl⟩ := List.mem_map.mp hb
      have key : ∀ l : List Tx, (∀ r ∈ l, okR r) → ∀ c ∈ joinT [10] l, c = 10 ∨ 32 ≤ c ∧ c ≤ 126 ∧ c ≠ 37 := by
        intro l
        induction l with
        | nil => intro _ c hc; simp [joinT] at hc
        | cons r l ih =>
          intro hr c hc
          cases l with
          | nil =>
            have : c ∈ r := by simpa [joinT] using hc
            exact .inr ((hr r (by simp)).2.1 c this)
          | cons r2 l =>
            have : c ∈ r ++ [10] ++ joinT [10] (r2 :: l) := by simpa [joinT] using hc
            rcases List.mem_append.mp this with z | z
            · rcases List.mem_append.mp z with z | z
              · exact .inr ((hr r (by simp)).2.1 c z)
              · exact .inl (by simpa using z)
            · exact ih (fun x hx => hr x (by simp [hx])) c z
      have := key rs h c hc
      unfold B.gd B.inS
      have e : Int.ofNat c = (c : Int) := rfl
      rw [e]
      rcases this with z | ⟨z1, z2, z3⟩
      · subst z; decide
      · have a1 : decide ((32 : Int) ≤ (c : Int)) = true := decide_eq_true (by omega)
        have a2 : decide ((c : Int) ≤ 126) = true := decide_eq_true (by omega)
        have a3 : decide ((c : Int) ≠ 37) = true := decide_eq_true (by omega)
        rw [a1, a2, a3]; simp
    · rw [hp, List.all_eq_true]
      intro p hpm
      obtain ⟨r, hr, rfl⟩ := List.mem_map.mp hpm
      have hok : r = [] ∨ okR r := by
        unfold plainR at hr
        split at hr
        · exact .inl (by simpa using hr)
        · exact .inr (h r hr)
      unfold B.okRow
      rcases hok with z | z
      · subst z; rfl
      · have b1 : decide ((iNts r).length ≤ 60) = true := decide_eq_true (by simp [iNts]; exact z.1.2)
        have b2 : decide ((iNts r).getLast? = some 32) = false := decide_eq_false (fun e => by
          unfold iNts at e
          rw [List.getLast?_map] at e
          obtain ⟨c, hc, hc2⟩ := Option.map_eq_some_iff.mp e
          have : c = 32 := by
            have : (c : Int) = 32 := hc2
            omega
          subst this
          exact z.2.2 hc)
        rw [b1, b2]; rfl
  unfold B.plainT
  rw [ok, hp]
  simp only [if_true]
  rw [List.map_map]
  have : (B.txP ∘ iNts) = id := by funext r; exact tx_ints r
  rw [this, List.map_id]
theorem bytes_written_eq (rs : List Tx) (h : ∀ r ∈ rs, okR r) (hn : rs.length ≤ 100) : d_bytes_written [.lst false ((bytesOf rs).map .int)] = .ok (.tup true [.str t_plain, rowD false (plainR rs)]) := by
  have hb := B.plain_rows_eq (bytesOf rs) (bytes_ok rs h) (by have := bytes_len rs h hn; omega)
  rw [plain_bytes rs h] at hb
  have n1 : fNotN (.lst true ((plainR rs).map .str)) = some (.bl true) := rfl
  have f1 := frzs_str (plainR rs)
  have f2 := shs_str (plainR rs)
  have hb' : d_plain_rows [.lst false ((bytesOf rs).map .int)] = .ok (.lst true ((plainR rs).map .str)) := hb
  have fi := frzs_int (bytesOf rs)
  have si : shs ((bytesOf rs).map D.int) = true := shs_int _
  unfold rowD
  generalize (plainR rs).map D.str = R at *
  generalize (bytesOf rs).map D.int = I at *
  simp_arith! [d_bytes_written, b_bytes_written, hb', n1, f1, f2, fi, si]
end Lk21
set_option maxHeartbeats 1000000
namespace Lk21
open G
theorem isI_piece (k : Nat) (t : Tr) (h : okT k t) : fIsI ci_Piece (pD k t) = some (.bl true) := by
  cases k with
  | zero => exact h.elim
  | succ k => cases t with | nd hs rs ps => simp [fIsI, pD, ci_Piece, List.lookup]
theorem isT_lst (xs : List D) : fIsTI .list ct_list (.lst false xs) = some (.bl true) := rfl
theorem heads_ok (r : List D → Res D) (ρ : Env) (hρ : ρ.length = 4) (hs : List Hd) (ok : ∀ h ∈ hs, h.ok) : compL (cN 3) eYes (le1_is_piece r) ρ (hs.map (hD false)) = .ok (hs.map fun _ => .bl true) := by
  refine compL_mapf (t := hD false) hs fun h hh => ?_
  obtain ⟨y0, y1, y2, y3, rfl⟩ : ∃ y0 y1 y2 y3, ρ = [y0, y1, y2, y3] := by
    rcases ρ with _ | ⟨y0, _ | ⟨y1, _ | ⟨y2, _ | ⟨y3, _ | ⟨y4, r⟩⟩⟩⟩⟩ <;> simp at hρ
    exact ⟨y0, y1, y2, y3, rfl⟩
  have j1 : fIsI ci_Header (hD false h) = some (.bl true) := by simp [fIsI, hD, hdrD, ci_Header, List.lookup]
  have j2 : fFldO "Header" "name" (hD false h) = some (.str h.w) := h_name false h.w h.v
  have j3 : decide (h.w = t_body) = false := decide_eq_false (ok h hh).1.2
  generalize hD false h = H at *
  simp_arith! [le1_is_piece, j1, j2, j3]
theorem all_true {α : Type} (l : List α) : fAll (.lst true (l.map fun _ => .bl true)) = some (.bl true) := by
  simp only [fAll, boolsD_mapf, Option.map_some]; simp
theorem is_piece_ok : ∀ (k n : Nat) (t : Tr) (j : Nat), okT k t → szT k t ≤ 100 → k ≤ j → k ≤ n → d_is_piece n [pD k t, .int (j : Int)] = .ok (.bl true)
  | 0, _, _, _, h, _, _, _ => h.elim
  | k + 1, 0, _, _, _, _, _, h => absurd h (by omega)
  | k + 1, n + 1, .nd hs rs ps, j, ok, hz, hj, hn => by
    have hL := line_ge
    have i1 := isI_piece (k + 1) (.nd hs rs ps) ok
    obtain ⟨h1, h2, h3, h4, h5⟩ := ok
    rw [d_is_piece_succ]
    simp only [szT] at hz
    have hsz := sum_ge (szT k) ps fun p _ => sz_pos k p
    have q1 := q_headers k hs rs ps
    have z1 : decide ((j : Int) = 0) = false := decide_eq_false (by omega)
    have t1 := isT_lst (hs.map (hD false))
    have c1 := heads_ok (d_is_piece n) [some (pD (k + 1) (.nd hs rs ps)), some (.int (j : Int)), none, none] rfl hs h1
    have a1 := all_true hs
    have l1 : (hs.map fun _ => D.bl true).length ≤ LINE := by rw [List.length_map]; omega
    cases ps with
    | nil =>
      have q2 := q_row0 k hs rs
      have q3 := q_pieces0 k hs rs
      have n1 : fIsN .non = some (.bl true) := rfl
      have hb := are_bytes_eq (bytesOf rs) (bytes_ok rs h2) (by have := bytes_len rs h2 (by omega); omega)
      have fi := frzs_int (bytesOf rs)
      have si : shs ((bytesOf rs).map D.int) = true := shs_int _
      generalize (bytesOf rs).map D.int = I at *
      generalize hs.map (hD false) = HS at *
      generalize (hs.map fun _ => D.bl true) = TS at *
      generalize pD (k + 1) (.nd hs rs []) = P at *
      simp_arith! [runF, b_is_piece, i1, z1, q1, t1, c1, a1, l1, q2, q3, n1, hb, fi, si]
    | cons p0 ps =>
      have q2 := q_row1 k hs rs p0 ps
      have q3 := q_pieces1 k hs rs p0 ps
      have hlen : (p0 :: ps).length ≤ 8 := h4
      have hlen1 : 1 ≤ (p0 :: ps).length := by simp
      generalize hP : p0 :: ps = PS at *
      have n1 : fIsN (.lst false (PS.map (pD k))) = some (.bl false) := rfl
      have n2 : fNotN .non = some (.bl false) := rfl
      have t2 := isT_lst (PS.map (pD k))
      have g1 : fLen (.lst false (PS.map (pD k))) = some (.int ((PS.length : Nat) : Int)) := by
        have : (PS.map (pD k)).length ≤ LINE := by rw [List.length_map]; omega
        simp only [fLen, this, if_true]
        rw [List.length_map]
      have g2 : fLe (.int 1) (.int ((PS.length : Nat) : Int)) = some (.bl true) := by
        have : decide ((1 : Int) ≤ ((PS.length : Nat) : Int)) = true := decide_eq_true (by omega)
        simp only [fLe, this]
      have g3 : fLe (.int ((PS.length : Nat) : Int)) (.int 8) = some (.bl true) := by
        have : decide (((PS.length : Nat) : Int) ≤ 8) = true := decide_eq_true (by omega)
        simp only [fLe, this]
      have c2 : compL (cN 2) eYes (le2_is_piece (d_is_piece n)) [some (pD (k + 1) (.nd hs rs PS)), some (.int (j : Int)), none, none] (PS.map (pD k)) = .ok (PS.map fun _ => .bl true) := by
        refine compL_mapf (t := pD k) PS fun p hp => ?_
        have hr := is_piece_ok k n p (j - 1) (h5 p hp) (by
          have := sum_mem (szT k) PS p hp
          omega) (by omega) (by omega)
        have hs1 : fSub (.int (j : Int)) (.int 1) = some (.int ((j - 1 : Nat) : Int)) := by
          have : (j : Int) - 1 = ((j - 1 : Nat) : Int) := by omega
          simp only [fSub, this]
        have hf := pD_frz k p
        have hsh := pD_sh k p
        generalize pD k p = Q at *
        generalize pD (k + 1) (.nd hs rs PS) = P at *
        simp_arith! [le2_is_piece, hs1, hf, hsh, hr]
      have a2 := all_true PS
      have l2 : (PS.map fun _ => D.bl true).length ≤ LINE := by rw [List.length_map]; omega
      generalize ((PS.length : Nat) : Int) = N at *
      generalize PS.map (pD k) = PD at *
      generalize (PS.map fun _ => D.bl true) = TS2 at *
      generalize hs.map (hD false) = HS at *
      generalize (hs.map fun _ => D.bl true) = TS at *
      generalize pD (k + 1) (.nd hs rs PS) = P at *
      simp_arith! [runF, b_is_piece, i1, z1, q1, t1, c1, a1, l1, q2, q3, n1, n2, t2, g1, g2, g3, c2, a2, l2]
theorem need_piece_ok (t : Tr) (ok : okT 4 t) (hz : szT 4 t ≤ 100) : d_need_piece [pD 4 t] = .ok .non := by
  have h1 := is_piece_ok 4 20 t 4 ok hz (by omega) (by omega)
  have h2 := pD_frz 4 t
  have h3 := pD_sh 4 t
  rw [show ((4 : Nat) : Int) = 4 from rfl] at h1
  generalize pD 4 t = P at *
  simp_arith! [d_need_piece, b_need_piece, h2, h1, h3]
end Lk21
set_option maxHeartbeats 1000000
namespace Lk21
open G
theorem value_eq (h : Hd) : d_Header_value [hD false h] = .ok (.str h.v) := by
  have h1 : fFld "Header" "known" (hD false h) = some (.str h.v) := by simp [fFld, hD, h_known]
  generalize hD false h = H at *
  simp_arith! [d_Header_value, b_Header_value, h1]
theorem row_loop (r1 r2 : List D → Res D) (x0 j3 j4 : Option D) : ∀ (hs : List Hd) (R : List Tx) (j2 : Option D), (∀ h ∈ hs, h.ok) → R.length + 101 * hs.length ≤ 50000 →
    ∃ k2, forL (bN 2) (lb1_rows_written r1 r2) (hs.map (hD false)) [x0, some (.lst true (R.map .str)), j2, j3, j4] = .nx [x0, some (.lst true ((R ++ hs.flatMap Hd.rows).map .str)), k2, j3, j4]
  | [], R, j2, _, _ => ⟨j2, by simp [forL]⟩
  | h :: hs, R, j2, ok, hl => by
    have hL := line_ge
    have ok1 := ok h (by simp)
    have h1 := (hrows_len h ok1).1
    simp only [List.length_cons] at hl
    obtain ⟨k2, ih⟩ := row_loop r1 r2 x0 j3 j4 hs (R ++ h.rows) (some (hD false h)) (fun x hx => ok x (List.mem_cons_of_mem _ hx)) (by rw [List.length_append]; omega)
    have hf := fold_h h ok1
    have hv := value_eq h
    have hn : fFldO "Header" "name" (hD false h) = some (.str h.w) := h_name false h.w h.v
    have hi : insOk "Header" "value" (hD false h) = true := by simp [insOk, hD, hdrD]
    have hz : (hD false h).frz = hD false h := rfl
    have hsh : (hD false h).sh = true := rfl
    have l1 : (R.map D.str).length + (h.rows.map D.str).length ≤ LINE := by rw [List.length_map, List.length_map]; omega
    refine ⟨k2, ?_⟩
    have e1 : R ++ (h :: hs).flatMap Hd.rows = (R ++ h.rows) ++ hs.flatMap Hd.rows := by simp
    rw [e1, ← ih]
    simp only [List.map_cons, forL]
    have e2 : (R ++ h.rows).map D.str = R.map D.str ++ h.rows.map D.str := by rw [List.map_append]
    rw [e2]
    generalize hD false h = Hh at *
    generalize h.rows.map D.str = HR at *
    generalize R.map D.str = RR at *
    simp_arith! [lb1_rows_written, hn, hi, hz, hv, hsh, hf, l1]
theorem run2 (H w1 w2 : Tx) (h : H.length + w1.length + w2.length + 2 ≤ 60) : F.fin (F.run H [w1, w2]) = [H ++ 32 :: w1 ++ 32 :: w2] := by
  have h1 : ¬ 60 < H.length + 1 + w1.length := by omega
  have h2 : ¬ 60 < (H ++ 32 :: w1).length + 1 + w2.length := by simp; omega
  simp only [F.run, List.foldl_cons, List.foldl_nil, F.stp, h1, if_false, h2, F.fin, List.nil_append]
theorem fold_plain : d_folded [.str t_body, .str t_plain] = .ok (.lst true [.str t_Bodyplai_7ed4]) := by
  have := F.folded_eq [t_body] (by simp) (by simp; decide) (by simp) [t_plain] (by simp; decide) (by simp) (by simp; decide)
  have e1 : joinT [45] [t_body] = t_body := rfl
  have e2 : joinT [32] [t_plain] = t_plain := rfl
  have e3 : F.fin (F.run (F.hd [t_body]) [t_plain]) = [t_Bodyplai_7ed4] := by decide
  rw [e1, e2, e3] at this
  exact this
theorem bord_signs (R : List Tx) (hR : R.length ≤ 100000) : (1 ≤ (bordT R).length ∧ (bordT R).length ≤ 9) ∧ ∀ c ∈ bordT R, c ∈ F.SG.drop 1 := by
  have hb := bordN_le R hR
  have hn := val_num 7 (bordN R) (by omega)
  refine ⟨⟨by simp [bordT], bord_len R hR⟩, fun c hc => ?_⟩
  rcases List.mem_cons.mp hc with z | z
  · subst z; decide
  · have := hn.2.2 c z
    have key : ∀ c : Nat, c < 58 → 48 ≤ c → c ∈ F.SG.drop 1 := by decide
    exact key c (by omega) this.1
theorem fold_border (R : List Tx) (hR : R.length ≤ 100000) : d_folded [.str t_body, .str (t_pieces_f221 ++ bordT R)] = .ok (.lst true [.str (t_Bodypiec_dfb6 ++ bordT R)]) := by
  obtain ⟨⟨b1, b2⟩, b3⟩ := bord_signs R hR
  have := F.folded_eq [t_body] (by simp) (by simp; decide) (by simp) [t_pieces, bordT R] (by
    intro w hw
    simp only [List.mem_cons, List.not_mem_nil, or_false] at hw
    rcases hw with rfl | rfl
    · decide
    · exact ⟨b1, by omega⟩) (by simp) (by
    intro w hw
    simp only [List.mem_cons, List.not_mem_nil, or_false] at hw
    rcases hw with rfl | rfl
    · decide
    · exact b3)
  have e1 : joinT [45] [t_body] = t_body := rfl
  have e2 : joinT [32] [t_pieces, bordT R] = t_pieces_f221 ++ bordT R := rfl
  have e3 : F.fin (F.run (F.hd [t_body]) [t_pieces, bordT R]) = [t_Bodypiec_dfb6 ++ bordT R] := by
    have hh : F.hd [t_body] = [66, 111, 100, 121, 58] := by decide
    rw [hh, run2 _ _ _ (by
      have : t_pieces.length = 6 := by decide
      rw [this]; simp; omega)]
    rfl
  rw [e1, e2, e3] at this
  exact this
def bodyV (k : Nat) : Tr → Tx × List Tx
  | .nd _ rs ps => match ps with
    | [] => (t_plain, plainR rs)
    | _ => (t_pieces_f221 ++ bordT (ps.map (due k)).flatten, wrapR (bordT (ps.map (due k)).flatten) (ps.map (due k)) ++ [[45, 45] ++ bordT (ps.map (due k)).flatten ++ [45, 45]])
theorem wb1_loop (r1 r2 : List D → Res D) (x0 x1 x4 x5 x6 : Option D) : ∀ (gs : List (List Tx)) (R : List Tx) (j3 : Option D), R.length + gs.flatten.length ≤ 50000 →
    ∃ k3, forL (bN 3) (lb1_body_written r1 r2) (gs.map (rowD false)) [x0, x1, some (.lst true (R.map .str)), j3, x4, x5, x6] = .nx [x0, x1, some (.lst true ((R ++ gs.flatten).map .str)), k3, x4, x5, x6]
  | [], R, j3, _ => ⟨j3, by simp [forL]⟩
  | g :: gs, R, j3, hl => by
    have hL := line_ge
    simp only [List.flatten_cons, List.length_append] at hl
    obtain ⟨k3, ih⟩ := wb1_loop r1 r2 x0 x1 x4 x5 x6 gs (R ++ g) (some (rowD false g)) (by rw [List.length_append]; omega)
    have l1 : (R.map D.str).length + (g.map D.str).length ≤ LINE := by rw [List.length_map, List.length_map]; omega
    have hs := shs_str g
    refine ⟨k3, ?_⟩
    have e1 : R ++ (g :: gs).flatten = (R ++ g) ++ gs.flatten := by simp
    rw [e1, ← ih]
    simp only [List.map_cons, forL]
    have e2 : (R ++ g).map D.str = R.map D.str ++ g.map D.str := by rw [List.map_append]
    rw [e2]
    unfold rowD
    generalize g.map D.str = HR at *
    generalize R.map D.str = RR at *
    simp_arith! [lb1_body_written, l1, hs]
theorem wb2_loop (r1 r2 : List D → Res D) (b : Tx) (hb : b.length ≤ 100) (x0 x1 x2 x6 : Option D) : ∀ (gs : List (List Tx)) (R : List Tx) (j3 : Option D), R.length + gs.length + gs.flatten.length ≤ 50000 →
    ∃ k3, forL (bN 3) (lb2_body_written r1 r2) (gs.map (rowD false)) [x0, x1, x2, j3, some (.str b), some (.lst true (R.map .str)), x6] = .nx [x0, x1, x2, k3, some (.str b), some (.lst true ((R ++ wrapR b gs).map .str)), x6]
  | [], R, j3, _ => ⟨j3, by simp [forL, wrapR]⟩
  | g :: gs, R, j3, hl => by
    have hL := line_ge
    simp only [List.flatten_cons, List.length_append, List.length_cons] at hl
    obtain ⟨k3, ih⟩ := wb2_loop r1 r2 b hb x0 x1 x2 x6 gs (R ++ [[45, 45] ++ b] ++ g) (some (rowD false g)) (by simp only [List.length_append, List.length_cons, List.length_nil]; omega)
    have a0 : fAdd (.str [45, 45]) (.str b) = some (.str ([45, 45] ++ b)) := by
      have : ([45, 45] : Tx).length + b.length ≤ LINE := by simp; omega
      simp only [fAdd, this, if_true]
    have l0 : (R.map D.str).length < LINE := by rw [List.length_map]; omega
    have l1 : (R.map D.str ++ [D.str ([45, 45] ++ b)]).length + (g.map D.str).length ≤ LINE := by simp only [List.length_append, List.length_map, List.length_cons, List.length_nil]; omega
    have hs := shs_str g
    refine ⟨k3, ?_⟩
    have e1 : R ++ wrapR b (g :: gs) = (R ++ [[45, 45] ++ b] ++ g) ++ wrapR b gs := by simp [wrapR]
    rw [e1, ← ih]
    simp only [List.map_cons, forL]
    have e2 : (R ++ [[45, 45] ++ b] ++ g).map D.str = R.map D.str ++ [D.str ([45, 45] ++ b)] ++ g.map D.str := by rw [List.map_append, List.map_append]; rfl
    rw [e2]
    unfold rowD
    generalize [45, 45] ++ b = B at *
    generalize g.map D.str = HR at *
    generalize R.map D.str = RR at *
    simp_arith! [lb2_body_written, t__1465, a0, l0, l1, hs]
end Lk21
set_option maxHeartbeats 1000000
namespace Lk21
open G
theorem body_ok (k m : Nat) (hs : List Hd) (rs : List Tx) (ps : List Tr) (ok : okT (k + 1) (.nd hs rs ps)) (hz : szT (k + 1) (.nd hs rs ps) ≤ 100) (IH : ∀ p ∈ ps, d_rows_written m [pD k p] = .ok (rowD true (due k p))) :
    ∃ o, d_body_written (m + 1) [pD (k + 1) (.nd hs rs ps)] = .ok (.tup true [.str (bodyV k (.nd hs rs ps)).1, rowD o (bodyV k (.nd hs rs ps)).2]) := by
  have hL := line_ge
  obtain ⟨h1, h2, h3, h4, h5⟩ := ok
  rw [d_body_written_succ]
  simp only [szT] at hz
  have hsz := sum_ge (szT k) ps fun p _ => sz_pos k p
  cases ps with
  | nil =>
    have q2 := q_row0 k hs rs
    have q3 := q_pieces0 k hs rs
    have n1 : fIsN .non = some (.bl true) := rfl
    have hb := bytes_written_eq rs h2 (by omega)
    have fi := frzs_int (bytesOf rs)
    have si : shs ((bytesOf rs).map D.int) = true := shs_int _
    refine ⟨false, ?_⟩
    show _ = Res.ok (D.tup true [.str t_plain, rowD false (plainR rs)])
    have hsr := row_sh (plainR rs)
    generalize rowD false (plainR rs) = RR at *
    generalize (bytesOf rs).map D.int = I at *
    generalize pD (k + 1) (.nd hs rs []) = P at *
    simp_arith! [runF, b_body_written, q2, q3, n1, hb, fi, si]
  | cons p0 ps =>
    have q3 := q_pieces1 k hs rs p0 ps
    generalize hP : p0 :: ps = PS at *
    have hv : bodyV k (.nd hs rs PS) = (t_pieces_f221 ++ bordT (PS.map (due k)).flatten, wrapR (bordT (PS.map (due k)).flatten) (PS.map (due k)) ++ [[45, 45] ++ bordT (PS.map (due k)).flatten ++ [45, 45]]) := by rw [← hP]; rfl
    rw [hv]
    have ih : ∀ p ∈ PS, (due k p).length ≤ 110 * szT k p ∧ ∀ r ∈ due k p, r.length ≤ 100 := fun p hp => due_len k p (h5 p hp) (by
      have := sum_mem (szT k) PS p hp
      omega)
    have hfl : (PS.map (due k)).flatten.length ≤ 110 * (PS.map (szT k)).sum := by
      rw [flat_sum, List.map_map]
      exact sum_mul _ _ 110 PS fun p hp => (ih p hp).1
    have n1 : fIsN (.lst false (PS.map (pD k))) = some (.bl false) := rfl
    have hc : compL (cN 6) eYes (le1_body_written (d_rows_written m) (d_body_written m)) [some (pD (k + 1) (.nd hs rs PS)), none, none, none, none, none, none] (PS.map (pD k)) = .ok ((PS.map (due k)).map (rowD false)) := by
      rw [List.map_map]
      refine compL_mapf (t := pD k) PS fun p hp => ?_
      have hr := IH p hp
      have hf := pD_frz k p
      have hsh := pD_sh k p
      have hz : (rowD true (due k p)).frz = rowD false (due k p) := by
        unfold rowD; rw [frz_lst, frzs_str]
      show _ = Res.ok (rowD false (due k p))
      generalize pD k p = Q at *
      generalize rowD true (due k p) = Z at *
      generalize rowD false (due k p) = Z2 at *
      generalize pD (k + 1) (.nd hs rs PS) = P at *
      simp_arith! [le1_body_written, hf, hsh, hr, hz]
    have hlc : ((PS.map (due k)).map (rowD false)).length ≤ LINE := by rw [List.length_map, List.length_map]; omega
    have hbl := bord_len (PS.map (due k)).flatten (by omega)
    have hbe := border_of_eq (PS.map (due k)).flatten (by omega)
    have hwl := wrap_len (bordT (PS.map (due k)).flatten) (PS.map (due k))
    rw [List.length_map] at hwl
    obtain ⟨k3, l2⟩ := wb1_loop (d_rows_written m) (d_body_written m) (some (pD (k + 1) (.nd hs rs PS))) (some (.lst false ((PS.map (due k)).map (rowD false)))) none none none (PS.map (due k)) [] none (by simp only [List.length_nil]; omega)
    rw [List.nil_append, show (([] : List Tx).map D.str) = [] from rfl] at l2
    obtain ⟨k3', l3⟩ := wb2_loop (d_rows_written m) (d_body_written m) (bordT (PS.map (due k)).flatten) (by omega) (some (pD (k + 1) (.nd hs rs PS))) (some (.lst false ((PS.map (due k)).map (rowD false)))) (some (.lst true ((PS.map (due k)).flatten.map .str))) none (PS.map (due k)) [] k3 (by simp only [List.length_nil, List.length_map]; omega)
    rw [List.nil_append, show (([] : List Tx).map D.str) = [] from rfl] at l3
    have f2 := groups_frz2 (PS.map (due k))
    have f3 := groups_sh (PS.map (due k))
    have f4 := frzs_str (PS.map (due k)).flatten
    have f5 := shs_str (PS.map (due k)).flatten
    have f6 := frzs_str (wrapR (bordT (PS.map (due k)).flatten) (PS.map (due k)))
    have b2 : fAdd (.lst false ((wrapR (bordT (PS.map (due k)).flatten) (PS.map (due k))).map .str)) (.lst true [.str ([45, 45] ++ bordT (PS.map (due k)).flatten ++ [45, 45])]) = some (.lst true ((wrapR (bordT (PS.map (due k)).flatten) (PS.map (due k)) ++ [[45, 45] ++ bordT (PS.map (due k)).flatten ++ [45, 45]]).map .str)) := by
      have s1 := shs_str (wrapR (bordT (PS.map (due k)).flatten) (PS.map (due k)))
      have s2 : shs [D.str ([45, 45] ++ bordT (PS.map (due k)).flatten ++ [45, 45])] = true := rfl
      have hq2 : ((wrapR (bordT (PS.map (due k)).flatten) (PS.map (due k))).map D.str).length + [D.str ([45, 45] ++ bordT (PS.map (due k)).flatten ++ [45, 45])].length ≤ LINE := by rw [List.length_map]; simp only [List.length_cons, List.length_nil]; omega
      simp only [fAdd, s1, s2, hq2, decide_true, Bool.and_self, if_true, List.map_append]
      rfl
    have c1 : fAdd (.str t_pieces_f221) (.str (bordT (PS.map (due k)).flatten)) = some (.str (t_pieces_f221 ++ bordT (PS.map (due k)).flatten)) := by
      have : t_pieces_f221.length + (bordT (PS.map (due k)).flatten).length ≤ LINE := by
        have : t_pieces_f221.length = 7 := by decide
        omega
      simp only [fAdd, this, if_true]
    have c2 : fAdd (.str [45, 45]) (.str (bordT (PS.map (due k)).flatten)) = some (.str ([45, 45] ++ bordT (PS.map (due k)).flatten)) := by
      have : ([45, 45] : Tx).length + (bordT (PS.map (due k)).flatten).length ≤ LINE := by simp; omega
      simp only [fAdd, this, if_true]
    have c3 : fAdd (.str ([45, 45] ++ bordT (PS.map (due k)).flatten)) (.str [45, 45]) = some (.str ([45, 45] ++ bordT (PS.map (due k)).flatten ++ [45, 45])) := by
      have : ([45, 45] ++ bordT (PS.map (due k)).flatten : Tx).length + ([45, 45] : Tx).length ≤ LINE := by simp; omega
      simp only [fAdd, this, if_true]
    refine ⟨true, ?_⟩
    show _ = Res.ok (D.tup true [.str (t_pieces_f221 ++ bordT (PS.map (due k)).flatten), D.lst true ((wrapR (bordT (PS.map (due k)).flatten) (PS.map (due k)) ++ [[45, 45] ++ bordT (PS.map (due k)).flatten ++ [45, 45]]).map .str)])
    clear hv ih hwl hfl hbl hsz h3 h4 h5 hz
    generalize (wrapR (bordT (PS.map (due k)).flatten) (PS.map (due k)) ++ [[45, 45] ++ bordT (PS.map (due k)).flatten ++ [45, 45]]).map D.str = Z1 at *
    generalize (wrapR (bordT (PS.map (due k)).flatten) (PS.map (due k))).map D.str = Z2 at *
    generalize [45, 45] ++ bordT (PS.map (due k)).flatten ++ [45, 45] = E1 at *
    generalize [45, 45] ++ bordT (PS.map (due k)).flatten = E2 at *
    generalize t_pieces_f221 ++ bordT (PS.map (due k)).flatten = E3 at *
    generalize bordT (PS.map (due k)).flatten = B at *
    generalize (PS.map (due k)).flatten.map D.str = FL at *
    generalize (PS.map (due k)).map (rowD false) = G2 at *
    generalize pD (k + 1) (.nd hs rs PS) = P at *
    generalize PS.map (pD k) = PD at *
    simp_arith! [runF, b_body_written, q3, n1, hc, hlc, f2, f3, f4, f5, f6, l2, l3, hbe, b2, c1, c2, c3, t__1465]
theorem fold_bodyV (k : Nat) (hs : List Hd) (rs : List Tx) (ps : List Tr) (ok : okT (k + 1) (.nd hs rs ps)) (hz : szT (k + 1) (.nd hs rs ps) ≤ 100) : ∃ b : Tx, d_folded [.str t_body, .str (bodyV k (.nd hs rs ps)).1] = .ok (.lst true [.str b]) ∧ due (k + 1) (.nd hs rs ps) = hs.flatMap Hd.rows ++ [b] ++ [[]] ++ (bodyV k (.nd hs rs ps)).2 := by
  obtain ⟨h1, h2, h3, h4, h5⟩ := ok
  simp only [szT] at hz
  cases ps with
  | nil =>
    refine ⟨t_Bodyplai_7ed4, fold_plain, ?_⟩
    show hs.flatMap Hd.rows ++ ([t_Bodyplai_7ed4, []] ++ plainR rs) = _
    simp [bodyV]
  | cons p0 ps =>
    generalize hP : p0 :: ps = PS at *
    have ih : ∀ p ∈ PS, (due k p).length ≤ 110 * szT k p ∧ ∀ r ∈ due k p, r.length ≤ 100 := fun p hp => due_len k p (h5 p hp) (by
      have := sum_mem (szT k) PS p hp
      omega)
    have hfl : (PS.map (due k)).flatten.length ≤ 110 * (PS.map (szT k)).sum := by
      rw [flat_sum, List.map_map]
      exact sum_mul _ _ 110 PS fun p hp => (ih p hp).1
    refine ⟨t_Bodypiec_dfb6 ++ bordT (PS.map (due k)).flatten, ?_, ?_⟩
    · have := fold_border (PS.map (due k)).flatten (by omega)
      rw [← hP] at this ⊢
      exact this
    · rw [← hP]
      show hs.flatMap Hd.rows ++ (_ ++ _ ++ _) = _
      simp [bodyV]
theorem bodyV_len (k : Nat) (hs : List Hd) (rs : List Tx) (ps : List Tr) (ok : okT (k + 1) (.nd hs rs ps)) (hz : szT (k + 1) (.nd hs rs ps) ≤ 100) : (hs.flatMap Hd.rows).length + (bodyV k (.nd hs rs ps)).2.length ≤ 20000 := by
  obtain ⟨b, _, e⟩ := fold_bodyV k hs rs ps ok hz
  have := (due_len (k + 1) _ ok hz).1
  rw [e] at this
  simp only [List.length_append] at this
  omega
theorem rows_ok : ∀ (k n : Nat) (t : Tr), okT k t → szT k t ≤ 100 → 2 * k ≤ n → d_rows_written n [pD k t] = .ok (rowD true (due k t))
  | 0, _, _, h, _, _ => h.elim
  | k + 1, 0, _, _, _, h => absurd h (by omega)
  | k + 1, 1, _, _, _, h => absurd h (by omega)
  | k + 1, m + 2, .nd hs rs ps, ok, hz, hk => by
    have hL := line_ge
    have hok := ok
    obtain ⟨b, hfb, hd⟩ := fold_bodyV k hs rs ps ok hz
    have hlen := bodyV_len k hs rs ps ok hz
    have hz0 := hz
    obtain ⟨h1, h2, h3, h4, h5⟩ := ok
    simp only [szT] at hz
    obtain ⟨o, hb⟩ := body_ok k m hs rs ps hok hz0 fun p hp => rows_ok k m p (h5 p hp) (by
      have := sum_mem (szT k) ps p hp
      omega) (by omega)
    rw [d_rows_written_succ]
    have q1 : fFld "Piece" "headers" (pD (k + 1) (.nd hs rs ps)) = some (.lst false (hs.map (hD false))) := by
      have h2 : (D.lst false (hs.map (hD false))).sh = true := by rw [sh_lst, hD_sh]; rfl
      simp only [fFld, q_headers, Option.bind_some, h2, if_true]
    have q2 : frzs (hs.map (hD false)) = hs.map (hD false) := frzs_of_shs _ (hD_sh hs)
    have q3 := hD_sh hs
    obtain ⟨a1, a2⟩ := hs_len hs h1
    obtain ⟨k2, hloop⟩ := row_loop (d_rows_written (m + 1)) (d_body_written (m + 1)) (some (pD (k + 1) (.nd hs rs ps))) none none hs [] none h1 (by simp only [List.length_nil]; omega)
    rw [List.nil_append, show (([] : List Tx).map D.str) = [] from rfl] at hloop
    rw [hd]
    have hfz := pD_frz (k + 1) (.nd hs rs ps)
    have hPs := pD_sh (k + 1) (.nd hs rs ps)
    have hbz : frzs [.str (bodyV k (.nd hs rs ps)).1, rowD o (bodyV k (.nd hs rs ps)).2] = [.str (bodyV k (.nd hs rs ps)).1, rowD false (bodyV k (.nd hs rs ps)).2] := by
      unfold rowD
      rw [frzs_cons, frzs_cons, frzs_nil, frz_lst, frzs_str]; rfl
    have hrs := row_sh (bodyV k (.nd hs rs ps)).2
    have c1 := add_rows true (hs.flatMap Hd.rows) [b] (by simp only [List.length_cons, List.length_nil]; omega)
    have c2 := add_rows true (hs.flatMap Hd.rows ++ [b]) [[]] (by simp only [List.length_append, List.length_cons, List.length_nil]; omega)
    have c3 : fAdd (.lst true ((hs.flatMap Hd.rows ++ [b] ++ [[]]).map .str)) (rowD false (bodyV k (.nd hs rs ps)).2) = some (.lst true ((hs.flatMap Hd.rows ++ [b] ++ [[]] ++ (bodyV k (.nd hs rs ps)).2).map .str)) := add_rows false _ _ (by simp only [List.length_append, List.length_cons, List.length_nil]; omega)
    rw [show ([b] : List Tx).map D.str = [.str b] from rfl] at c1
    rw [show ([[]] : List Tx).map D.str = [.str []] from rfl] at c2
    show _ = Res.ok (D.lst true ((hs.flatMap Hd.rows ++ [b] ++ [[]] ++ (bodyV k (.nd hs rs ps)).2).map .str))
    generalize (hs.flatMap Hd.rows ++ [b] ++ [[]] ++ (bodyV k (.nd hs rs ps)).2).map D.str = Z1 at *
    generalize (hs.flatMap Hd.rows ++ [b] ++ [[]]).map D.str = Z2 at *
    generalize (hs.flatMap Hd.rows ++ [b]).map D.str = Z3 at *
    generalize (hs.flatMap Hd.rows).map D.str = Z4 at *
    generalize rowD o (bodyV k (.nd hs rs ps)).2 = W1 at *
    generalize rowD false (bodyV k (.nd hs rs ps)).2 = W2 at *
    generalize (bodyV k (.nd hs rs ps)).1 = W3 at *
    generalize hs.map (hD false) = HS at *
    generalize pD (k + 1) (.nd hs rs ps) = P at *
    simp_arith! [runF, b_rows_written, q1, q2, q3, hloop, hfz, hPs, hb, hbz, hrs, hfb, c1, c2, c3, t__0]
theorem piece_rows_ok (t : Tr) (ok : okT 4 t) (hz : szT 4 t ≤ 100) : d_piece_rows [pD 4 t] = .ok (rowD true (due 4 t)) := by
  have h1 := need_piece_ok t ok hz
  have h2 := rows_ok 4 20 t ok hz (by omega)
  have h3 := pD_frz 4 t
  have h4 := pD_sh 4 t
  generalize rowD true (due 4 t) = Z at *
  generalize pD 4 t = P at *
  simp_arith! [d_piece_rows, b_piece_rows, h1, h2, h3, h4]
end Lk21
set_option maxHeartbeats 1000000
namespace Lk21
open G
theorem setF (i : Nat) (c n : String) (e : E) (ρ : Env) (d : D) (fs : List String) (vs : List D) (he : e ρ = .ok d) (hg : get ρ i = .ok (.ins true c fs vs)) (hf : fs.length < 900) (hn : n ≠ "!") : sSetF i c n e ρ = .nx (put ρ i (.ins true c (setFn n fs) (setFv n d fs vs))) := by
  have h1 : (c == c && (decide (fs.length < 900) && n != "!")) = true := by simp [hf, hn]
  simp only [sSetF, he, hg, sE_ok, h1, if_true]
theorem hinit (n v : Tx) : d_Header___init__ [.ins true "Header" [] [], .str n, .str v] = .ok .non (hdrD true n v) := by
  have h1 := setF 0 "Header" "name" (eV 1) [some (.ins true "Header" [] []), some (.str n), some (.str v)] (.str n) [] [] (by simp_arith! []) rfl (by simp) (by decide)
  have h2 := setF 0 "Header" "known" (eV 2) [some (.ins true "Header" ["name"] [.str n]), some (.str n), some (.str v)] (.str v) ["name"] [.str n] (by simp_arith! []) rfl (by simp) (by decide)
  have e1 : setFn "name" [] = ["name"] := rfl
  have e2 : setFv "name" (.str n) [] [] = [.str n] := rfl
  have e3 : setFn "known" ["name"] = ["name", "known"] := by simp [setFn]
  have e4 : setFv "known" (.str v) ["name"] [.str n] = [.str n, .str v] := by simp [setFv]
  rw [e1, e2] at h1
  rw [e3, e4] at h2
  simp_arith! [d_Header___init__, b_Header___init__, h1, h2, hdrD]
def mD : Nat → Tr → D
  | 0, _ => .non
  | k + 1, .nd hs rs ps => .ins true "Piece" ["headers", "row", "pieces"] [.lst true (hs.map (hD false)), (match ps with | [] => .lst true ((bytesOf rs).map .int) | _ => .non), (match ps with | [] => .non | _ => .lst true (ps.map (pD k)))]
theorem mD_frz (k : Nat) (t : Tr) : (mD k t).frz = pD k t := by
  cases k with
  | zero => rfl
  | succ k =>
    cases t with
    | nd hs rs ps =>
      have e1 := frzs_of_shs _ (hD_sh hs)
      have e2 := frzs_int (bytesOf rs)
      cases ps with
      | nil =>
        show D.ins false "Piece" ["headers", "row", "pieces"] (frzs [.lst true (hs.map (hD false)), .lst true ((bytesOf rs).map .int), .non]) = .ins false "Piece" ["headers", "row", "pieces"] [.lst false (hs.map (hD false)), .lst false ((bytesOf rs).map .int), .non]
        rw [frzs_cons, frzs_cons, frzs_cons, frzs_nil, frz_lst, frz_lst, e1, e2]; rfl
      | cons p ps =>
        have e3 : frzs ((p :: ps).map (pD k)) = (p :: ps).map (pD k) := by
          refine frzs_of_shs _ ?_
          generalize p :: ps = l
          induction l with
          | nil => rfl
          | cons x l ih => rw [List.map_cons, shs_cons, ih, pD_sh k x]; rfl
        show D.ins false "Piece" ["headers", "row", "pieces"] (frzs [.lst true (hs.map (hD false)), .non, .lst true ((p :: ps).map (pD k))]) = .ins false "Piece" ["headers", "row", "pieces"] [.lst false (hs.map (hD false)), .non, .lst false ((p :: ps).map (pD k))]
        rw [frzs_cons, frzs_cons, frzs_cons, frzs_nil, frz_lst, frz_lst, e1, e3]; rfl
theorem makeC (ρ : Env) (e1 e2 e3 : E) (a b c x y z : D) (h1 : e1 ρ = .ok a) (h2 : e2 ρ = .ok b) (h3 : e3 ρ = .ok c) (k1 : cpD a = some x) (k2 : cpD b = some y) (k3 : cpD c = some z) : eMakeC "Piece" "headers" "row" "pieces" [] [e1, e2, e3] ρ = .ok (.ins true "Piece" ["headers", "row", "pieces"] [x, y, z]) := by
  have : eArgs [e1, e2, e3] ρ = .ok [a, b, c] := by simp [eArgs, h1, h2, h3]
  unfold eMakeC
  rw [this]
  simp only [bind_ok, List.append_nil, k1, k2, k3]
theorem makeC2 (ρ : Env) (e1 e2 : E) (a b x y : D) (h1 : e1 ρ = .ok a) (h2 : e2 ρ = .ok b) (k1 : cpD a = some x) (k2 : cpD b = some y) : eMakeC "Piece" "headers" "row" "pieces" [.non] [e1, e2] ρ = .ok (.ins true "Piece" ["headers", "row", "pieces"] [x, y, .non]) := by
  have : eArgs [e1, e2] ρ = .ok [a, b] := by simp [eArgs, h1, h2]
  unfold eMakeC
  rw [this]
  have k3 : cpD .non = some .non := rfl
  simp only [bind_ok, List.cons_append, List.nil_append, k1, k2, k3]
theorem cp_lst (o : Bool) (xs : List D) (h : shs xs = true) : cpD (.lst o xs) = some (.lst true xs) := by simp only [cpD, h, if_true]
theorem made_heads (r : List D → Res D) (ρ : Env) (hρ : ρ.length = 8) (hs : List Hd) : compL (cT [4, 5]) eYes (le1__law_made r) ρ (hs.map hpD) = .ok (hs.map (hD false)) := by
  refine compL_map2 (α := Hd) (f1 := fun h => .str h.w) (f2 := fun h => .str h.v) (fun h => ⟨false, rfl⟩) hs fun h _ => ?_
  obtain ⟨y0, y1, y2, y3, y4, y5, y6, y7, rfl⟩ : ∃ y0 y1 y2 y3 y4 y5 y6 y7, ρ = [y0, y1, y2, y3, y4, y5, y6, y7] := by
    rcases ρ with _ | ⟨y0, _ | ⟨y1, _ | ⟨y2, _ | ⟨y3, _ | ⟨y4, _ | ⟨y5, _ | ⟨y6, _ | ⟨y7, _ | ⟨y8, r⟩⟩⟩⟩⟩⟩⟩⟩⟩ <;> simp at hρ
    exact ⟨y0, y1, y2, y3, y4, y5, y6, y7, rfl⟩
  have hi := hinit h.w h.v
  have hf : (hdrD true h.w h.v).frz = hD false h := rfl
  have hm : eMake "Header" d_Header___init__ [eO 4, eO 5] [y0, y1, y2, y3, some (.str h.w), some (.str h.v), y6, y7] = .ok (hdrD true h.w h.v) := by
    generalize hdrD true h.w h.v = Z at *
    generalize h.w = w at *
    generalize h.v = v at *
    simp [eMake, eArgs, hi, frzs]
  show eFrz (eMake "Header" d_Header___init__ [eO 4, eO 5]) [y0, y1, y2, y3, some (.str h.w), some (.str h.v), y6, y7] = _
  generalize hdrD true h.w h.v = Z at *
  generalize hD false h = Z2 at *
  simp only [eFrz_ap, hm, bind_ok, hf]
end Lk21
set_option maxHeartbeats 1000000
namespace Lk21
open G
theorem pDs_sh (k : Nat) (l : List Tr) : shs (l.map (pD k)) = true := by
  induction l with
  | nil => rfl
  | cons x l ih => rw [List.map_cons, shs_cons, ih, pD_sh k x]; rfl
theorem made_ok : ∀ (k n : Nat) (t : Tr), okT k t → szT k t ≤ 100 → k ≤ n → d__law_made n [tD k t] = .ok (mD k t)
  | 0, _, _, h, _, _ => h.elim
  | k + 1, 0, _, _, _, h => absurd h (by omega)
  | k + 1, n + 1, .nd hs rs ps, ⟨h1, h2, h3, h4, h5⟩, hz, hk => by
    have hL := line_ge
    rw [d__law_made_succ]
    simp only [szT] at hz
    have hsz := sum_ge (szT k) ps fun p _ => sz_pos k p
    have g1 : fDG (tD (k + 1) (.nd hs rs ps)) (.str t_headers) = some (.lst false (hs.map hpD)) := rfl
    have g2 : fDG (tD (k + 1) (.nd hs rs ps)) (.str t_rows) = some (.lst false (rs.map .str)) := rfl
    have g3 : fDG (tD (k + 1) (.nd hs rs ps)) (.str t_pieces) = some (.lst false (ps.map (tD k))) := rfl
    have c1 := made_heads (d__law_made n) [some (tD (k + 1) (.nd hs rs ps)), none, none, none, none, none, none, none] rfl hs
    have l1 : (hs.map (hD false)).length ≤ LINE := by rw [List.length_map]; omega
    have cpH : cpD (.lst true (hs.map (hD false))) = some (.lst true (hs.map (hD false))) := cp_lst _ _ (hD_sh hs)
    cases ps with
    | nil =>
      have g4 : fEqE (.lst false (([] : List Tr).map (tD k))) (.lst true []) = some (.bl true) := rfl
      have hj := joinL [10] rs false 60 (fun r hr => (h2 r hr).1.2) (by
        have : rs.length * (60 + ([10] : Tx).length) ≤ 100 * 61 := Nat.mul_le_mul (by omega) (Nat.le_refl _)
        omega)
      have hjl := joined_len rs h2 (by omega)
      have hc : ∀ x : Option D, compL (cN 7) eYes (le2__law_made (d__law_made n)) [some (tD (k + 1) (.nd hs rs [])), x, none, none, none, none, none, none] ((joinT [10] rs).map fun c => .str [c]) = .ok ((joinT [10] rs).map fun c => .int (Int.ofNat c)) := fun x => by
        refine compL_mapf (t := fun c : Nat => D.str [c]) (joinT [10] rs) fun c _ => ?_
        have ho : fOrd (.str [c]) = some (.int (Int.ofNat c)) := rfl
        generalize tD (k + 1) (.nd hs rs []) = T at *
        simp_arith! [le2__law_made, ho]
      have hc1 := hc (some (.lst true (hs.map (hD false))))
      have e1 : ((joinT [10] rs).map fun c => D.int (Int.ofNat c)) = (bytesOf rs).map .int := by unfold bytesOf; rw [List.map_map]; rfl
      rw [e1] at hc1
      have lb : ((bytesOf rs).map D.int).length ≤ LINE := by have := bytes_len rs h2 (by omega); rw [List.length_map]; omega
      have cpB : cpD (.lst false ((bytesOf rs).map .int)) = some (.lst true ((bytesOf rs).map .int)) := cp_lst _ _ (shs_int _)
      have fB := frzs_int (bytesOf rs)
      have hm := makeC2 [some (tD (k + 1) (.nd hs rs [])), some (.lst true (hs.map (hD false))), none, none, none, none, none, none] (eO 1) (eFrz (eComp [7] (iStr (e2s fJoin (eC (.str t__693)) (e2 fDG (eO 0) (eC (.str t_rows))))) (cN 7) eYes ((le2__law_made (d__law_made n))))) (.lst true (hs.map (hD false))) (.lst false ((bytesOf rs).map .int)) _ _ (by simp_arith! []) (by
        generalize (bytesOf rs).map D.int = I at *
        generalize hs.map (hD false) = HS at *
        generalize rs.map D.str = RS at *
        generalize tD (k + 1) (.nd hs rs []) = T at *
        simp_arith! [t__693, g2, hj, hc1, lb, fB]) cpH cpB
      show _ = Res.ok (D.ins true "Piece" ["headers", "row", "pieces"] [.lst true (hs.map (hD false)), .lst true ((bytesOf rs).map .int), .non])
      generalize D.ins true "Piece" ["headers", "row", "pieces"] [.lst true (hs.map (hD false)), .lst true ((bytesOf rs).map .int), .non] = Z at *
      clear hc1 hc cpH cpB
      generalize hs.map (hD false) = HS at *
      generalize hs.map hpD = HP at *
      generalize tD (k + 1) (.nd hs rs []) = T at *
      generalize ([] : List Tr).map (tD k) = PS at *
      simp_arith! [runF, b__law_made, g1, g3, g4, c1, l1, hm]
    | cons p0 ps =>
      generalize hP : p0 :: ps = PS at *
      have g4 : fEqE (.lst false (PS.map (tD k))) (.lst true []) = some (.bl false) := by rw [← hP]; rfl
      have c2 : compL (cN 6) eYes (le3__law_made (d__law_made n)) [some (tD (k + 1) (.nd hs rs PS)), some (.lst true (hs.map (hD false))), none, none, none, none, none, none] (PS.map (tD k)) = .ok (PS.map (pD k)) := by
        refine compL_mapf (t := tD k) PS fun p hp => ?_
        have hr := made_ok k n p (h5 p hp) (by
          have := sum_mem (szT k) PS p hp
          omega) (by omega)
        have hf := td_frz k p
        have hsh := td_sh k p
        have hz := mD_frz k p
        generalize tD (k + 1) (.nd hs rs PS) = T at *
        generalize tD k p = Q at *
        generalize mD k p = Z at *
        generalize pD k p = Z2 at *
        simp_arith! [le3__law_made, hf, hsh, hr, hz]
      have l2 : (PS.map (pD k)).length ≤ LINE := by rw [List.length_map]; omega
      have cpP : cpD (.lst true (PS.map (pD k))) = some (.lst true (PS.map (pD k))) := cp_lst _ _ (pDs_sh k PS)
      have m1 := makeC [some (tD (k + 1) (.nd hs rs PS)), some (.lst true (hs.map (hD false))), some (.lst true (PS.map (pD k))), none, none, none, none, none] (eO 1) (eC .non) (eO 2) _ _ _ _ _ _ (by simp_arith! []) (by simp_arith! []) (by simp_arith! []) cpH (show cpD .non = some .non from rfl) cpP
      have hm : mD (k + 1) (.nd hs rs PS) = D.ins true "Piece" ["headers", "row", "pieces"] [.lst true (hs.map (hD false)), .non, .lst true (PS.map (pD k))] := by rw [← hP]; rfl
      rw [← hm] at m1
      have m2 := makeC2 [some (tD (k + 1) (.nd hs rs PS)), some (.lst true (hs.map (hD false))), some (.lst true (PS.map (pD k))), some (mD (k + 1) (.nd hs rs PS)), none, none, none, none] (eFrz (eL [])) (eFrz (eL [eC (.int 98)])) (.lst false []) (.lst false [.int 98]) _ _ (by simp_arith! []) (by simp_arith! []) (show _ = some (.lst true []) from rfl) (show _ = some (.lst true [.int 98]) from rfl)
      have l3 : (PS.map (pD k)).length < LINE := by rw [List.length_map]; omega
      have l4 : (hs.map (hD false)).length < LINE := by rw [List.length_map]; omega
      clear hm cpP cpH
      generalize mD (k + 1) (.nd hs rs PS) = Z at *
      generalize hs.map (hD false) = HS at *
      generalize hs.map hpD = HP at *
      generalize tD (k + 1) (.nd hs rs PS) = T at *
      generalize PS.map (tD k) = TS at *
      generalize PS.map (pD k) = QS at *
      generalize D.ins true "Piece" ["headers", "row", "pieces"] [.lst true [], .lst true [.int 98], .non] = Z3 at *
      simp_arith! [runF, b__law_made, g1, g3, g4, c1, l1, c2, l2, m1, m2, l3, l4]
end Lk21
set_option maxHeartbeats 1000000
namespace Lk21
open G
def mxn (c k : Int) : Int := c % 1000000007 + 7919 * k + 13
def mxd (c k : Int) : Int := mxn c k * mxn c k % 1000000007 * mxn c k % 998244353 / 11
theorem mxd_ok (c k : Int) : 0 ≤ mxd c k ∧ mxd c k < 90749487 := by
  unfold mxd
  generalize mxn c k * mxn c k % 1000000007 * mxn c k = z
  omega
theorem fits_small {k : Int} (h0 : 0 ≤ k) (h1 : k < 4294967296) : fits64 k = true := by
  simp [fits64]; omega
theorem mixed_eq (c k : Int) (h0 : 0 ≤ k) (h1 : k < 100000) : d__law_mixed [.int c, .int k] = .ok (.int (mxd c k)) := by
  have e2 : fits64 7919 = true := by decide
  have hb : 0 ≤ mxn c k ∧ mxn c k < 4294967296 := by unfold mxn; omega
  have e3 := fits_small hb.1 hb.2
  have e4 : mxn c k = c % 1000000007 + 7919 * k + 13 := rfl
  rw [e4] at e3
  have m1 : fMul (.int 7919) (.int k) = some (.int (7919 * k)) := by simp [fMul, e2]
  have m2 : ∀ i : Int, fMul (.int i) (.int (c % 1000000007 + 7919 * k + 13)) = some (.int (i * (c % 1000000007 + 7919 * k + 13))) := fun i => by simp [fMul, e3]
  simp_arith! [d__law_mixed, b__law_mixed, m1, m2, mxd, mxn]
theorem num_3 (n : Nat) (h : n < 1000) : 1 ≤ (numT n).length ∧ (numT n).length ≤ 4 ∧ ∀ c ∈ numT n, 48 ≤ c ∧ c ≤ 57 := by
  obtain ⟨a, b, c⟩ := val_num 3 n (by omega)
  refine ⟨?_, b, c⟩
  by_cases hn : n < 10
  · rw [numT_lt hn]; simp
  · rw [numT_step (by omega)]; simp
def rowA : List Tx := [[45, 45, 98], [45, 45, 98], [45, 98], [45, 45, 66], [98], [45, 45]]
def rowE : List Tx := [[], [45, 45], [120], [32, 98], [48]]
theorem row_good : ∀ A ∈ rowA, ∀ E ∈ rowE, ∀ N : Tx, 1 ≤ N.length → N.length ≤ 4 → (∀ c ∈ N, 48 ≤ c ∧ c ≤ 57) → okR (A ++ N ++ E) := by
  have hA : ∀ A ∈ rowA, A.length ≤ 3 ∧ ∀ c ∈ A, 32 ≤ c ∧ c ≤ 126 ∧ c ≠ 37 := by decide
  have hE : ∀ E ∈ rowE, E.length ≤ 2 ∧ (∀ c ∈ E, 32 ≤ c ∧ c ≤ 126 ∧ c ≠ 37) ∧ (E = [] ∨ (E.getLast? ≠ none ∧ E.getLast? ≠ some 32)) := by decide
  intro A ha E he N h1 h2 h3
  obtain ⟨a1, a2⟩ := hA A ha
  obtain ⟨e1, e2, e3⟩ := hE E he
  refine ⟨⟨by simp only [List.length_append]; omega, by simp only [List.length_append]; omega⟩, fun c hc => ?_, ?_⟩
  · rcases List.mem_append.mp hc with hc | hc
    · rcases List.mem_append.mp hc with hc | hc
      · exact a2 c hc
      · have := h3 c hc; omega
    · exact e2 c hc
  · rcases e3 with e3 | ⟨e3, e4⟩
    · subst e3
      rw [List.append_nil, List.getLast?_append]
      cases hN : N.getLast? with
      | none => rw [List.getLast?_eq_none_iff] at hN; subst hN; simp at h1
      | some c =>
        have := h3 c (List.mem_of_getLast? hN)
        simp; omega
    · rw [List.getLast?_append]
      cases hE : E.getLast? with
      | none => exact absurd hE e3
      | some c => rw [hE] at e4; simpa using e4
theorem shs_memG : ∀ {xs : List D} {d : D}, shs xs = true → d ∈ xs → d.sh = true
  | x :: xs, d, h, hd => by
    rw [shs_cons, Bool.and_eq_true] at h
    rcases List.mem_cons.mp hd with z | z
    · subst z; exact h.1
    · exact shs_memG h.2 z
theorem ix_of (xs : List D) (i : Nat) (d : D) (hs : shs xs = true) (h : xs[i]? = some d) : fIx (.lst false xs) (.int (i : Int)) = some d := by
  have hi : i < xs.length := (List.getElem?_eq_some_iff.mp h).1
  have h1 : ixD xs.length (i : Int) = some i := by simp [ixD, hi]
  have h2 : d.sh = true := shs_memG hs (List.mem_of_getElem? h)
  simp only [fIx, h1, Option.bind_some, h, h2, if_true]
theorem row_eq (n : Int) (h0 : 0 ≤ n) : ∃ r, d__law_row [.int n] = .ok (.str r) ∧ okR r := by
  have hL := line_ge
  obtain ⟨i, hi⟩ : ∃ i : Nat, n / 72 % 3 = (i : Int) := ⟨(n / 72 % 3).toNat, by omega⟩
  obtain ⟨m, hm⟩ : ∃ m : Nat, [n / 6 % 3, n / 6 % 12, 9 + n / 6 % 122][i]? = some (m : Int) ∧ m < 131 := by
    have : i = 0 ∨ i = 1 ∨ i = 2 := by omega
    rcases this with rfl | rfl | rfl
    · exact ⟨(n / 6 % 3).toNat, by simp; omega, by omega⟩
    · exact ⟨(n / 6 % 12).toNat, by simp; omega, by omega⟩
    · exact ⟨(9 + n / 6 % 122).toNat, by simp; omega, by omega⟩
  obtain ⟨hm, hm1⟩ := hm
  obtain ⟨a, ha⟩ : ∃ a : Nat, n % 6 = (a : Int) := ⟨(n % 6).toNat, by omega⟩
  obtain ⟨A, hA⟩ : ∃ A, rowA[a]? = some A := ⟨_, List.getElem?_eq_getElem (by show a < 6; omega)⟩
  obtain ⟨e, he⟩ : ∃ e : Nat, n / 216 % 5 = (e : Int) := ⟨(n / 216 % 5).toNat, by omega⟩
  obtain ⟨E, hE⟩ : ∃ E, rowE[e]? = some E := ⟨_, List.getElem?_eq_getElem (by show e < 5; omega)⟩
  obtain ⟨n1, n2, n3⟩ := num_3 m (by omega)
  refine ⟨A ++ numT m ++ E, ?_, row_good A (List.mem_of_getElem? hA) E (List.mem_of_getElem? hE) _ n1 n2 n3⟩
  have i1 : fIx (.lst false [.int (n / 6 % 3), .int (n / 6 % 12), .int (9 + n / 6 % 122)]) (.int (i : Int)) = some (.int (m : Int)) := ix_of _ i _ rfl (by
    have := congrArg (Option.map D.int) hm
    rw [← List.getElem?_map] at this; exact this)
  have i2 : fIx (.lst false [.str t_b_563a, .str t_b_563a, .str t_b_4864, .str t_B_76f2, .str t_b, .str t__1465]) (.int (a : Int)) = some (.str A) := ix_of _ a _ rfl (by
    have := congrArg (Option.map D.str) hA
    rw [← List.getElem?_map] at this; exact this)
  have i3 : fIx (.lst false [.str t__0, .str t__1465, .str t_x, .str t_b_3629, .str t_0]) (.int (e : Int)) = some (.str E) := ix_of _ e _ rfl (by
    have := congrArg (Option.map D.str) hE
    rw [← List.getElem?_map] at this; exact this)
  have hA3 : A.length ≤ 3 := (by decide : ∀ A ∈ rowA, A.length ≤ 3) A (List.mem_of_getElem? hA)
  have hE2 : E.length ≤ 2 := (by decide : ∀ A ∈ rowE, A.length ≤ 2) E (List.mem_of_getElem? hE)
  have s1 : fStrI (.int (m : Int)) = some (.str (numT m)) := by
    have : (decide ((0 : Int) ≤ (m : Int)) && decide ((m : Int) < 18446744073709551616)) = true := by simp; omega
    simp only [fStrI, this, if_true, Int.toNat_natCast]
  have a1 : fAdd (.str A) (.str (numT m)) = some (.str (A ++ numT m)) := by
    have : A.length + (numT m).length ≤ LINE := by omega
    simp only [fAdd, this, if_true]
  have a2 : fAdd (.str (A ++ numT m)) (.str E) = some (.str (A ++ numT m ++ E)) := by
    have : (A ++ numT m).length + E.length ≤ LINE := by rw [List.length_append]; omega
    simp only [fAdd, this, if_true]
  generalize numT m = N at *
  have m1 : fMod (.int (n / 72)) (.int 3) = some (.int (i : Int)) := by rw [← hi]; rfl
  have m2 : fMod (.int n) (.int 6) = some (.int (a : Int)) := by rw [← ha]; rfl
  have m3 : fMod (.int (n / 216)) (.int 5) = some (.int (e : Int)) := by rw [← he]; rfl
  have m4 : fMod (.int (n / 6)) (.int 3) = some (.int (n / 6 % 3)) := rfl
  have m5 : fMod (.int (n / 6)) (.int 12) = some (.int (n / 6 % 12)) := rfl
  have m6 : fMod (.int (n / 6)) (.int 122) = some (.int (n / 6 % 122)) := rfl
  have d1 : fDiv (.int n) (.int 6) = some (.int (n / 6)) := rfl
  have d2 : fDiv (.int n) (.int 72) = some (.int (n / 72)) := rfl
  have d3 : fDiv (.int n) (.int 216) = some (.int (n / 216)) := rfl
  have d4 : fAdd (.int 9) (.int (n / 6 % 122)) = some (.int (9 + n / 6 % 122)) := rfl
  generalize n / 6 % 3 = z1 at *
  generalize n / 6 % 12 = z2 at *
  generalize n / 6 % 122 = z3 at *
  generalize n / 72 = z4 at *
  generalize n / 216 = z5 at *
  generalize n / 6 = z6 at *
  simp_arith! [d__law_row, b__law_row, m1, m2, m3, m4, m5, m6, d1, d2, d3, d4, i1, i2, i3, s1, a1, a2]
def dHd (i d m : Nat) : Hd := ⟨[98] ++ [98 + i], ([45, 45, 98] ++ numT d) :: List.replicate m [120]⟩
theorem joinX : ∀ (m : Nat) (w : Tx), joinT [32] (w :: List.replicate m [120]) = w ++ (List.replicate m ([32, 120] : Tx)).flatten
  | 0, w => by simp [joinT]
  | m + 1, w => by
    rw [List.replicate_succ, List.replicate_succ, List.flatten_cons]
    rw [show joinT [32] (w :: [120] :: List.replicate m [120]) = w ++ [32] ++ joinT [32] ([120] :: List.replicate m [120]) from by simp [joinT]]
    rw [joinX m [120]]; simp
theorem dHd_ok (i d m : Nat) (hi : i = 0 ∨ i = 1 ∨ i = 2) (hd : d < 9) (hm : m < 40) : (dHd i d m).ok := by
  refine ⟨?_, ⟨by simp [dHd], by simp [dHd]; omega⟩, fun w hw => ?_, fun w hw c hc => ?_⟩
  · have hk : ∀ i ∈ [0, 1, 2], F.okw ([98] ++ [98 + i]) = true ∧ ([98] ++ [98 + i] : Tx) ≠ t_body := by decide
    exact hk i (by simpa using hi)
  · have hl : (numT d).length = 1 := by rw [numT_lt (by omega)]; rfl
    rcases List.mem_cons.mp hw with hw | hw
    · subst hw; simp; omega
    · rw [(List.mem_replicate.mp hw).2]; simp
  · rcases List.mem_cons.mp hw with hw | hw
    · subst hw
      rw [numT_lt (by omega)] at hc
      have hk : ∀ d : Nat, d < 9 → ∀ c ∈ ([45, 45, 98] ++ [48 + d] : Tx), c ∈ F.SG.drop 1 := by decide
      exact hk d hd c hc
    · rw [(List.mem_replicate.mp hw).2] at hc
      have : c = 120 := by simpa using hc
      subst this; decide
end Lk21
set_option maxHeartbeats 1000000
namespace Lk21
open G
def ohD (h : Hd) : D := .tup true [.str h.w, .str h.v]
def oD : Nat → Tr → D
  | 0, _ => .non
  | k + 1, .nd hs rs ps => .dic true KS [.lst true (hs.map ohD), .lst true (rs.map .str), .lst true (ps.map (oD k))]
structure Fr where
  hs : List Hd
  rs : List Tx
  ps : List Tr
def Fr.t (f : Fr) : Tr := .nd f.hs f.rs f.ps
def bl : List Fr → Fr → Tr
  | [], f => f.t
  | g :: pre, f => .nd g.hs g.rs (g.ps ++ [bl pre f])
def topP : List Fr → List Nat
  | [] => []
  | g :: pre => 2 :: g.ps.length :: topP pre
def qsF : List Fr → List (List Nat)
  | [] => [[]]
  | g :: pre => [] :: (qsF pre).map fun q => 2 :: g.ps.length :: q
theorem oD_frz : ∀ (k : Nat) (t : Tr), (oD k t).frz = tD k t
  | 0, _ => rfl
  | k + 1, .nd hs rs ps => by
    have e1 : frzs (hs.map ohD) = hs.map hpD := by
      induction hs with
      | nil => rfl
      | cons h hs ih => rw [List.map_cons, frzs_cons, ih]; rfl
    have e2 : frzs (rs.map D.str) = rs.map D.str := frzs_of_shs _ (shs_str rs)
    have e3 : frzs (ps.map (oD k)) = ps.map (tD k) := by
      induction ps with
      | nil => rfl
      | cons p ps ih => rw [List.map_cons, frzs_cons, ih, oD_frz k p]; rfl
    show D.dic false KS (frzs [.lst true (hs.map ohD), .lst true (rs.map .str), .lst true (ps.map (oD k))]) = _
    rw [frzs_cons, frzs_cons, frzs_cons, frzs_nil, frz_lst, frz_lst, frz_lst, e1, e2, e3]; rfl
theorem qsF_last : ∀ pre, (qsF pre).getLast? = some (topP pre)
  | [] => rfl
  | g :: pre => by
    have h := qsF_last pre
    cases hq : qsF pre with
    | nil => rw [hq] at h; exact nomatch h
    | cons q qs =>
      rw [hq] at h
      simp only [qsF, topP, hq, List.map_cons, List.getLast?_cons_cons]
      rw [← List.map_cons (f := fun q => 2 :: g.ps.length :: q), List.getLast?_map, h]; rfl
theorem qsF_len : ∀ pre, (qsF pre).length = pre.length + 1
  | [] => rfl
  | g :: pre => by simp [qsF, qsF_len pre]
theorem qsF_push : ∀ (pre : List Fr) (f : Fr), qsF (pre ++ [f]) = qsF pre ++ [topP pre ++ [2, f.ps.length]]
  | [], f => rfl
  | g :: pre, f => by
    show [] :: (qsF (pre ++ [f])).map _ = _
    rw [qsF_push pre f, List.map_append]; rfl
theorem qsF_head (pre : List Fr) : ∃ r, qsF pre = [] :: r := by
  cases pre with
  | nil => exact ⟨_, rfl⟩
  | cons g pre => exact ⟨_, rfl⟩
theorem bl_push : ∀ (pre : List Fr) (f : Fr), bl pre ⟨f.hs, f.rs, f.ps ++ [.nd [] [] []]⟩ = bl (pre ++ [f]) ⟨[], [], []⟩
  | [], f => rfl
  | g :: pre, f => by
    show Tr.nd g.hs g.rs (g.ps ++ [bl pre _]) = Tr.nd g.hs g.rs (g.ps ++ [bl (pre ++ [f]) _])
    rw [bl_push pre f]
theorem bl_pop : ∀ (pre : List Fr) (g f : Fr), bl (pre ++ [g]) f = bl pre ⟨g.hs, g.rs, g.ps ++ [f.t]⟩
  | [], g, f => rfl
  | h :: pre, g, f => by
    show Tr.nd h.hs h.rs (h.ps ++ [bl (pre ++ [g]) f]) = Tr.nd h.hs h.rs (h.ps ++ [bl pre _])
    rw [bl_pop pre g f]
theorem at_top : ∀ (pre : List Fr) (f : Fr) (k : Nat) (p : List Nat), pre.length ≤ k → atP (topP pre ++ p) (oD k (bl pre f)) = atP p (oD (k - pre.length) f.t)
  | [], f, k, p, _ => rfl
  | g :: pre, f, 0, p, h => by simp at h
  | g :: pre, f, k + 1, p, h => by
    have ih := at_top pre f k p (by simpa using h)
    have e : k + 1 - (g :: pre).length = k - pre.length := by simp
    rw [e, ← ih]
    have hn : ((g.ps ++ [bl pre f]).map (oD k))[g.ps.length]? = some (oD k (bl pre f)) := by simp
    show atP (2 :: g.ps.length :: (topP pre ++ p)) (oD (k + 1) (.nd g.hs g.rs (g.ps ++ [bl pre f]))) = _
    simp only [oD, atP, D.isO, D.kids, if_true]
    show ((some (D.lst true ((g.ps ++ [bl pre f]).map (oD k)))).bind (atP (g.ps.length :: (topP pre ++ p)))) = _
    simp only [Option.bind_some, atP, D.isO, D.kids, if_true, hn]
theorem set_top : ∀ (pre : List Fr) (f f' : Fr) (k : Nat) (p : List Nat) (e : D), pre.length ≤ k → setP p e (oD (k - pre.length) f.t) = oD (k - pre.length) f'.t →
    setP (topP pre ++ p) e (oD k (bl pre f)) = oD k (bl pre f')
  | [], f, f', k, p, e, _, h => h
  | g :: pre, f, f', 0, p, e, h, _ => by simp at h
  | g :: pre, f, f', k + 1, p, e, h, hs => by
    have e0 : k + 1 - (g :: pre).length = k - pre.length := by simp
    rw [e0] at hs
    have ih := set_top pre f f' k p e (by simpa using h) hs
    have hn : ((g.ps ++ [bl pre f]).map (oD k))[g.ps.length]? = some (oD k (bl pre f)) := by simp
    have hx : ((g.ps ++ [bl pre f]).map (oD k)).set g.ps.length (oD k (bl pre f')) = (g.ps ++ [bl pre f']).map (oD k) := by
      rw [List.map_append, List.map_append, List.set_append_right _ _ (by simp)]; simp
    show setP (2 :: g.ps.length :: (topP pre ++ p)) e (oD (k + 1) (.nd g.hs g.rs (g.ps ++ [bl pre f]))) = oD (k + 1) (.nd g.hs g.rs (g.ps ++ [bl pre f']))
    have s1 : setP (g.ps.length :: (topP pre ++ p)) e (.lst true ((g.ps ++ [bl pre f]).map (oD k))) = .lst true ((g.ps ++ [bl pre f']).map (oD k)) := by
      simp only [setP, D.kids, hn, D.kset, ih, hx]
    have s2 : setP (2 :: g.ps.length :: (topP pre ++ p)) e (oD (k + 1) (.nd g.hs g.rs (g.ps ++ [bl pre f]))) = .dic true KS [.lst true (g.hs.map ohD), .lst true (g.rs.map .str), setP (g.ps.length :: (topP pre ++ p)) e (.lst true ((g.ps ++ [bl pre f]).map (oD k)))] := by
      generalize g.ps.length :: (topP pre ++ p) = q
      simp [oD, setP, D.kids, D.kset]
    rw [s2, s1]; rfl
theorem ok_top : ∀ (pre : List Fr) (f : Fr) (k : Nat), okT k (bl pre f) → pre.length < k ∧ okT (k - pre.length) f.t
  | [], f, 0, h => h.elim
  | [], f, k + 1, h => ⟨by simp, h⟩
  | g :: pre, f, 0, h => h.elim
  | g :: pre, f, k + 1, ⟨_, _, _, _, h5⟩ => by
    obtain ⟨a, b⟩ := ok_top pre f k (h5 _ (by simp))
    refine ⟨by simpa using a, ?_⟩
    have e0 : k + 1 - (g :: pre).length = k - pre.length := by simp
    rw [e0]; exact b
theorem ok_set : ∀ (pre : List Fr) (f f' : Fr) (k : Nat), okT k (bl pre f) → okT (k - pre.length) f'.t → okT k (bl pre f')
  | [], f, f', k, _, h => h
  | g :: pre, f, f', 0, h, _ => h.elim
  | g :: pre, f, f', k + 1, ⟨h1, h2, h3, h4, h5⟩, h => by
    have e0 : k + 1 - (g :: pre).length = k - pre.length := by simp
    rw [e0] at h
    refine ⟨h1, h2, ?_, by simpa using h4, fun p hp => ?_⟩
    · rcases h3 with z | z
      · exact .inl z
      · simp at z
    · rcases List.mem_append.mp hp with z | z
      · exact h5 p (by simp [z])
      · have : p = bl pre f' := by simpa using z
        subst this
        exact ok_set pre f f' k (h5 _ (by simp)) h
theorem sz_set : ∀ (pre : List Fr) (f f' : Fr) (k m : Nat), pre.length ≤ k → szT (k - pre.length) f'.t ≤ szT (k - pre.length) f.t + m → szT k (bl pre f') ≤ szT k (bl pre f) + m
  | [], f, f', k, m, _, h => h
  | g :: pre, f, f', 0, m, h, _ => by simp at h
  | g :: pre, f, f', k + 1, m, hl, h => by
    have e0 : k + 1 - (g :: pre).length = k - pre.length := by simp
    rw [e0] at h
    have ih := sz_set pre f f' k m (by simpa using hl) h
    simp only [bl, szT, List.map_append, List.sum_append, List.map_cons, List.map_nil, List.sum_cons, List.sum_nil]
    omega
end Lk21
set_option maxHeartbeats 1000000
namespace Lk21
open G
def cA : E := eAnd (e2 fLt (e2 fMod (eO 4) (eC (.int 8))) (eC (.int 3))) (eAnd (e2 fLt (e1 fLen (eO 1)) (eC (.int 4))) (eAnd (e2 fEq (e2 fDG (eO 5) (eC (.str t_rows))) (eL [])) (e2 fLt (e1 fLen (e2 fDG (eO 5) (eC (.str t_pieces)))) (eC (.int 8)))))
def cB : E := eAnd (e2 fEq (e2 fMod (eO 4) (eC (.int 8))) (eC (.int 3))) (e2 fGt (e1 fLen (eO 1)) (eC (.int 1)))
def cC : E := e2 fEq (e2 fMod (eO 4) (eC (.int 8))) (eC (.int 4))
def cDD : E := e2 fEqE (e2 fDG (eO 5) (eC (.str t_pieces))) (eL [])
def cE : E := e2 fGt (e1 fLen (eO 1)) (eC (.int 1))
def eH : E := eT [e2 fAdd (eC (.str t_b)) (e2 fIxO (eC (.str t_bcd)) (e2 fMod (eO 6) (eC (.int 3)))), e2 fAdd (e2 fAdd (eC (.str t_b_563a)) (e1 fStrI (e2 fMod (e2 fDiv (eO 6) (eC (.int 3))) (eC (.int 9))))) (e2 fMul (eC (.str t_x_cf53)) (e2 fMod (e2 fDiv (eO 6) (eC (.int 27))) (eC (.int 40))))]
def plP : Pl := pDk 5 (pHere 5) (eC (.str t_pieces))
def plH : Pl := pDk 5 (pHere 5) (eC (.str t_headers))
def plR : Pl := pDk 5 (pHere 5) (eC (.str t_rows))
theorem lb1_eq : lb1__law_drawn = kSeq (kLift 1 5 (sSet 4 (eCall d__law_mixed [eO 3, eO 2]))) (kSeq (kTop 1 5) (kSeq (kLift 1 5 (sSet 6 (e2 fDiv (eO 4) (eC (.int 8))))) (kIf 1 5 cA (kSeq (kApp 1 5 plP (eCall0 d__law_open)) (kPush 1 5 (pIx 5 plP (e1 fNeg (eC (.int 1)))))) (kIf 1 5 cB kPop (kIf 1 5 cC (kApp 1 5 plH eH) (kIf 1 5 cDD (kApp 1 5 plR (eCall d__law_row [eO 6])) (kIf 1 5 cE kPop kPass))))))) := rfl
theorem kSeq_nx {a b : Kd} {g g1 : GSt} (h : a g = .nx g1) : kSeq a b g = b g1 := by simp only [kSeq, h]
theorem kIf_bl {si ti : Nat} {c : E} {a b : Kd} {g : GSt} {t : Bool} (h : c (g.vw si ti) = .ok (.bl t)) : kIf si ti c a b g = if t then a g else b g := by
  cases t <;> simp [kIf, h]
theorem sz_top : ∀ (pre : List Fr) (f : Fr) (k : Nat), pre.length ≤ k → szT (k - pre.length) f.t ≤ szT k (bl pre f)
  | [], f, k, _ => Nat.le_refl _
  | g :: pre, f, 0, h => by simp at h
  | g :: pre, f, k + 1, h => by
    have ih := sz_top pre f k (by simpa using h)
    have e0 : k + 1 - (g :: pre).length = k - pre.length := by simp
    rw [e0]
    simp only [bl, szT, List.map_append, List.sum_append, List.map_cons, List.map_nil, List.sum_cons, List.sum_nil]
    omega
def vwE (ns : List Int) (k c N M : Int) (NL HS RS PS : List D) : Env := [some (.scr ns), some (.lst true NL), some (.int k), some (.int c), some (.int N), some (.dic true KS [.lst true HS, .lst true RS, .lst true PS]), some (.int M)]
variable (ns : List Int) (k c N M : Int) (NL : List D) (HS : List D) (rs : List Tx) (PS : List D)
theorem gR (HS RS PS : List D) : fDG (.dic true KS [.lst true HS, .lst true RS, .lst true PS]) (.str t_rows) = some (.lst true RS) := rfl
theorem gP (HS RS PS : List D) : fDG (.dic true KS [.lst true HS, .lst true RS, .lst true PS]) (.str t_pieces) = some (.lst true PS) := rfl
theorem eq_nil_strs (ts : List Tx) : fEq (.lst true (ts.map .str)) (.lst true []) = some (.bl ts.isEmpty) := by
  rw [fEq_pl (by simp) (by simp) (by simp) (by simp)]
  cases ts <;> simp [D.eqv, eqvs]
theorem lenL (xs : List D) : fLen (.lst true xs) = some (.int (xs.length : Int)) := rfl
theorem cA_eq : cA (vwE ns k c N M NL HS (rs.map .str) PS) = .ok (.bl (decide (N % 8 < 3) && (decide (NL.length < 4) && (rs.isEmpty && decide (PS.length < 8))))) := by
  have m : fMod (.int N) (.int 8) = some (.int (N % 8)) := rfl
  have h1 := eq_nil_strs rs
  have h2 := lenL NL
  have h3 := lenL PS
  have l1 : fLt (.int (NL.length : Int)) (.int 4) = some (.bl (decide (NL.length < 4))) := by
    show some (D.bl (decide _)) = _
    congr 2; rw [decide_eq_decide]; omega
  have l2 : fLt (.int (PS.length : Int)) (.int 8) = some (.bl (decide (PS.length < 8))) := by
    show some (D.bl (decide _)) = _
    congr 2; rw [decide_eq_decide]; omega
  have l3 : fLt (.int (N % 8)) (.int 3) = some (.bl (decide (N % 8 < 3))) := rfl
  have g1 := gR HS (rs.map .str) PS
  have g2 := gP HS (rs.map .str) PS
  generalize decide (N % 8 < 3) = b1 at *
  generalize decide (NL.length < 4) = b2 at *
  generalize decide (PS.length < 8) = b4 at *
  generalize rs.isEmpty = b3 at *
  generalize N % 8 = Q at *
  generalize rs.map D.str = RS at *
  have hE : vwE ns k c N M NL HS RS PS = [some (.scr ns), some (.lst true NL), some (.int k), some (.int c), some (.int N), some (.dic true KS [.lst true HS, .lst true RS, .lst true PS]), some (.int M)] := rfl
  rw [hE]
  generalize D.dic true KS [.lst true HS, .lst true RS, .lst true PS] = DD at *
  simp_arith! [cA, m, l3, h2, l1, g1, h1, g2, h3, l2]
  cases b1 <;> cases b2 <;> cases b3 <;> cases b4 <;> rfl
theorem cB_eq (RS : List D) : cB (vwE ns k c N M NL HS RS PS) = .ok (.bl (decide (N % 8 = 3) && decide (1 < NL.length))) := by
  have m : fMod (.int N) (.int 8) = some (.int (N % 8)) := rfl
  have h2 := lenL NL
  have l1 : fGt (.int (NL.length : Int)) (.int 1) = some (.bl (decide (1 < NL.length))) := by
    show some (D.bl (decide _)) = _
    congr 2; rw [decide_eq_decide]; omega
  generalize decide (1 < NL.length) = b2 at *
  generalize N % 8 = Q at *
  simp_arith! [cB, vwE, m, h2, l1]
  by_cases hq : Q = 3 <;> cases b2 <;> simp [hq]
theorem cC_eq (RS : List D) : cC (vwE ns k c N M NL HS RS PS) = .ok (.bl (decide (N % 8 = 4))) := by
  have m : fMod (.int N) (.int 8) = some (.int (N % 8)) := rfl
  generalize N % 8 = Q at *
  simp_arith! [cC, vwE, m]
theorem cD_eq (RS : List D) : cDD (vwE ns k c N M NL HS RS PS) = .ok (.bl PS.isEmpty) := by
  have g2 := gP HS RS PS
  have h : fEqE (.lst true PS) (.lst true []) = some (.bl PS.isEmpty) := rfl
  simp_arith! [cDD, vwE, g2, h]
theorem cE_eq (RS : List D) : cE (vwE ns k c N M NL HS RS PS) = .ok (.bl (decide (1 < NL.length))) := by
  have h2 := lenL NL
  have l1 : fGt (.int (NL.length : Int)) (.int 1) = some (.bl (decide (1 < NL.length))) := by
    show some (D.bl (decide _)) = _
    congr 2; rw [decide_eq_decide]; omega
  simp_arith! [cE, vwE, h2, l1]
theorem plP_eq (RS : List D) : plP (vwE ns k c N M NL HS RS PS) = .ok [2] := rfl
theorem plH_eq (RS : List D) : plH (vwE ns k c N M NL HS RS PS) = .ok [0] := rfl
theorem plR_eq (RS : List D) : plR (vwE ns k c N M NL HS RS PS) = .ok [1] := rfl
theorem ix_m1 (n : Nat) : ixD (n + 1) (-1) = some n := by
  unfold ixD
  have : ((-1 : Int) < 0) := by decide
  simp; omega
theorem pIx_eq (RS : List D) (d : D) : pIx 5 plP (e1 fNeg (eC (.int 1))) (vwE ns k c N M NL HS RS (PS ++ [d])) = .ok [2, PS.length] := by
  have h1 : plP (vwE ns k c N M NL HS RS (PS ++ [d])) = .ok [2] := rfl
  have h2 : e1 fNeg (eC (.int 1)) (vwE ns k c N M NL HS RS (PS ++ [d])) = .ok (.int (-1)) := rfl
  have h3 : partAt (vwE ns k c N M NL HS RS (PS ++ [d])) 5 [2] = .ok (.lst true (PS ++ [d])) := rfl
  have h4 : ixD (PS ++ [d]).length (-1) = some PS.length := by
    rw [List.length_append]; exact ix_m1 _
  simp only [pIx, h1, h2, h3, bind_ok, h4, of_some, List.cons_append, List.nil_append]
theorem open_eq (V : Env) (j : Nat) : eCall0 d__law_open V = .ok (oD (j + 1) (.nd [] [] [])) := rfl
theorem eH_eq (RS : List D) (hM : 0 ≤ M) : ∃ h : Hd, h.ok ∧ eH (vwE ns k c N M NL HS RS PS) = .ok (ohD h) := by
  have hL := line_ge
  obtain ⟨i, hi⟩ : ∃ i : Nat, M % 3 = (i : Int) := ⟨(M % 3).toNat, by omega⟩
  obtain ⟨d, hd⟩ : ∃ d : Nat, M / 3 % 9 = (d : Int) := ⟨(M / 3 % 9).toNat, by omega⟩
  obtain ⟨m, hm⟩ : ∃ m : Nat, M / 27 % 40 = (m : Int) := ⟨(M / 27 % 40).toNat, by omega⟩
  refine ⟨dHd i d m, dHd_ok i d m (by omega) (by omega) (by omega), ?_⟩
  have m1 : fMod (.int M) (.int 3) = some (.int (i : Int)) := by rw [← hi]; rfl
  have m2 : fMod (.int (M / 3)) (.int 9) = some (.int (d : Int)) := by rw [← hd]; rfl
  have m3 : fMod (.int (M / 27)) (.int 40) = some (.int (m : Int)) := by rw [← hm]; rfl
  have d1 : fDiv (.int M) (.int 3) = some (.int (M / 3)) := rfl
  have d2 : fDiv (.int M) (.int 27) = some (.int (M / 27)) := rfl
  have x1 : fIxO (.str t_bcd) (.int (i : Int)) = some (.str [98 + i]) := by
    have : i = 0 ∨ i = 1 ∨ i = 2 := by omega
    rcases this with rfl | rfl | rfl <;> rfl
  have a1 : fAdd (.str t_b) (.str [98 + i]) = some (.str ([98] ++ [98 + i])) := rfl
  have s1 : fStrI (.int (d : Int)) = some (.str (numT d)) := by
    have : (decide ((0 : Int) ≤ (d : Int)) && decide ((d : Int) < 18446744073709551616)) = true := by simp; omega
    simp only [fStrI, this, if_true, Int.toNat_natCast]
  have hn : (numT d).length = 1 := by rw [numT_lt (by omega)]; rfl
  have a2 : fAdd (.str t_b_563a) (.str (numT d)) = some (.str ([45, 45, 98] ++ numT d)) := by
    have : t_b_563a.length + (numT d).length ≤ LINE := by rw [hn]; decide
    simp only [fAdd, this, if_true]; rfl
  have u1 : fMul (.str t_x_cf53) (.int (m : Int)) = some (.str ((List.replicate m ([32, 120] : Tx)).flatten)) := by
    have f1 : fits62 (m : Int) = true := by simp [fits62]; omega
    have f2 : t_x_cf53.length * m ≤ LINE := by show 2 * m ≤ LINE; omega
    have f3 : (decide (t_x_cf53.length * m ≤ LINE) && fits62 (m : Int)) = true := by rw [f1]; simpa using f2
    simp only [fMul, Int.toNat_natCast, f3, if_true]; rfl
  have hf : ((List.replicate m ([32, 120] : Tx)).flatten).length ≤ 80 := by
    have hk : ∀ m : Nat, m < 40 → ((List.replicate m ([32, 120] : Tx)).flatten).length ≤ 80 := by decide
    exact hk m (by omega)
  have hv : (dHd i d m).v = ([45, 45, 98] ++ numT d) ++ (List.replicate m ([32, 120] : Tx)).flatten := joinX m _
  have hw : (dHd i d m).w = [98] ++ [98 + i] := rfl
  rw [ohD, hv, hw]
  generalize (List.replicate m ([32, 120] : Tx)).flatten = F at *
  generalize numT d = N2 at *
  have a3 : fAdd (.str ([45, 45, 98] ++ N2)) (.str F) = some (.str ([45, 45, 98] ++ N2 ++ F)) := by
    have : ([45, 45, 98] ++ N2 : Tx).length + F.length ≤ LINE := by rw [List.length_append, hn]; simp; omega
    simp only [fAdd, this, if_true]
  generalize [45, 45, 98] ++ N2 = W at *
  generalize W ++ F = Y at *
  generalize M / 3 = M3 at *
  generalize M / 27 = M27 at *
  simp_arith! [eH, vwE, m1, m2, m3, d1, d2, x1, a1, s1, a2, u1, a3]
theorem eR_eq (RS : List D) (hM : 0 ≤ M) : ∃ r, okR r ∧ eCall d__law_row [eO 6] (vwE ns k c N M NL HS RS PS) = .ok (.str r) := by
  obtain ⟨r, h1, h2⟩ := row_eq M hM
  refine ⟨r, h2, ?_⟩
  simp_arith! [vwE, h1]
end Lk21
set_option maxHeartbeats 1000000
namespace Lk21
open G
def gst (ns : List Int) (x2 x3 x4 x6 : Option D) (pre : List Fr) (f : Fr) (al : Option (List Nat)) : GSt := ⟨[some (.scr ns), none, x2, x3, x4, none, x6], oD 4 (bl pre f), qsF pre, al⟩
theorem vw_eq (ns : List Int) (k c N M : Int) (pre : List Fr) (f : Fr) (j : Nat) (hj : 4 - pre.length = j + 1) :
    ∃ NL : List D, NL.length = pre.length + 1 ∧ (gst ns (some (.int k)) (some (.int c)) (some (.int N)) (some (.int M)) pre f (some (topP pre))).vw 1 5 = vwE ns k c N M NL (f.hs.map ohD) (f.rs.map .str) (f.ps.map (oD j)) := by
  have h := at_top pre f 4 [] (by omega)
  rw [List.append_nil, hj] at h
  have hn : nodeD (oD 4 (bl pre f)) (topP pre) = .dic true KS [.lst true (f.hs.map ohD), .lst true (f.rs.map .str), .lst true (f.ps.map (oD j))] := by
    unfold nodeD; rw [h]; rfl
  refine ⟨(qsF pre).map (nodeD (oD 4 (bl pre f))), by rw [List.length_map, qsF_len], ?_⟩
  show put (put [some (.scr ns), none, some (.int k), some (.int c), some (.int N), none, some (.int M)] 1 (.lst true ((qsF pre).map (nodeD (oD 4 (bl pre f)))))) 5 (nodeD (oD 4 (bl pre f)) (topP pre)) = _
  rw [hn]; rfl
theorem kApp_eq (ns : List Int) (x2 x3 x4 x6 : Option D) (pre : List Fr) (f f' : Fr) (pl : Pl) (e : E) (V : Env) (p : List Nat) (xs : List D) (d : D)
    (hV : (gst ns x2 x3 x4 x6 pre f (some (topP pre))).vw 1 5 = V) (hp : pl V = .ok p) (hl : pre.length ≤ 4) (ha : atP p (oD (4 - pre.length) f.t) = some (.lst true xs)) (he : e V = .ok d) (hx : xs.length < LINE)
    (hs : setP p (.lst true (xs ++ [d])) (oD (4 - pre.length) f.t) = oD (4 - pre.length) f'.t) :
    kApp 1 5 pl e (gst ns x2 x3 x4 x6 pre f (some (topP pre))) = .nx (gst ns x2 x3 x4 x6 pre f' (some (topP pre))) := by
  have h1 : atP (topP pre ++ p) (gst ns x2 x3 x4 x6 pre f (some (topP pre))).T = some (.lst true xs) := (at_top pre f 4 p hl).trans ha
  have h2 : setP (topP pre ++ p) (.lst true (xs ++ [d])) (gst ns x2 x3 x4 x6 pre f (some (topP pre))).T = oD 4 (bl pre f') := set_top pre f f' 4 p _ hl hs
  have h0 : (gst ns x2 x3 x4 x6 pre f (some (topP pre))).al = some (topP pre) := rfl
  simp only [kApp, h0, hV, hp, h1, he, hx, if_true, h2]
  rfl
theorem kLift4 (ns : List Int) (k c N : Int) (x4 x6 : Option D) (T : D) (qs : List (List Nat)) (al : Option (List Nat)) (h : d__law_mixed [.int c, .int k] = .ok (.int N)) :
    kLift 1 5 (sSet 4 (eCall d__law_mixed [eO 3, eO 2])) ⟨[some (.scr ns), none, some (.int k), some (.int c), x4, none, x6], T, qs, al⟩ = .nx ⟨[some (.scr ns), none, some (.int k), some (.int c), some (.int N), none, x6], T, qs, al⟩ := by
  have h1 : sSet 4 (eCall d__law_mixed [eO 3, eO 2]) [some (.scr ns), none, some (.int k), some (.int c), x4, none, x6] = .nx [some (.scr ns), none, some (.int k), some (.int c), some (.int N), none, x6] := by
    simp_arith! [h]
  simp only [kLift, h1]; rfl
theorem kLift6 (ns : List Int) (k c N : Int) (x6 : Option D) (T : D) (qs : List (List Nat)) (al : Option (List Nat)) :
    kLift 1 5 (sSet 6 (e2 fDiv (eO 4) (eC (.int 8)))) ⟨[some (.scr ns), none, some (.int k), some (.int c), some (.int N), none, x6], T, qs, al⟩ = .nx ⟨[some (.scr ns), none, some (.int k), some (.int c), some (.int N), none, some (.int (N / 8))], T, qs, al⟩ := by
  have d1 : fDiv (.int N) (.int 8) = some (.int (N / 8)) := rfl
  have h1 : sSet 6 (e2 fDiv (eO 4) (eC (.int 8))) [some (.scr ns), none, some (.int k), some (.int c), some (.int N), none, x6] = .nx [some (.scr ns), none, some (.int k), some (.int c), some (.int N), none, some (.int (N / 8))] := by
    generalize N / 8 = M at *
    simp_arith! [d1]
  simp only [kLift, h1]; rfl
theorem kPop_eq (ns : List Int) (x2 x3 x4 x6 : Option D) (pre : List Fr) (g f : Fr) (al : Option (List Nat)) :
    kPop (gst ns x2 x3 x4 x6 (pre ++ [g]) f al) = .nx (gst ns x2 x3 x4 x6 pre ⟨g.hs, g.rs, g.ps ++ [f.t]⟩ al) := by
  have h1 : 2 ≤ (gst ns x2 x3 x4 x6 (pre ++ [g]) f al).qs.length := by
    show 2 ≤ (qsF (pre ++ [g])).length
    rw [qsF_len]; simp
  have h2 : (gst ns x2 x3 x4 x6 (pre ++ [g]) f al).qs.dropLast = qsF pre := by
    show (qsF (pre ++ [g])).dropLast = _
    rw [qsF_push, List.dropLast_concat]
  have h3 : (gst ns x2 x3 x4 x6 (pre ++ [g]) f al).T = oD 4 (bl pre ⟨g.hs, g.rs, g.ps ++ [f.t]⟩) := congrArg (oD 4) (bl_pop pre g f)
  simp only [kPop, h1, if_true, h2, h3]; rfl
def good (m : Nat) (pre : List Fr) (f : Fr) : Prop := okT 4 (bl pre f) ∧ szT 4 (bl pre f) ≤ m
theorem pop_good {m : Nat} {pre : List Fr} {g f : Fr} (h : good m (pre ++ [g]) f) : good m pre ⟨g.hs, g.rs, g.ps ++ [f.t]⟩ := by
  unfold good at *; rw [bl_pop] at h; exact h
theorem set_good {m : Nat} {pre : List Fr} {f f' : Fr} (h : good m pre f) (h1 : okT (4 - pre.length) f'.t) (h2 : szT (4 - pre.length) f'.t ≤ szT (4 - pre.length) f.t + 1) : good (m + 1) pre f' := by
  obtain ⟨a, b⟩ := h
  have hl := (ok_top pre f 4 a).1
  exact ⟨ok_set pre f f' 4 a h1, Nat.le_trans (sz_set pre f f' 4 1 (by omega) h2) (by omega)⟩
theorem step (ns : List Int) (m : Nat) (hm : m ≤ 100) (pre : List Fr) (f : Fr) (hg : good m pre f) (i : Nat) (hi : i < 100) (c : Int) (x4 x6 : Option D) (al : Option (List Nat)) :
    ∃ pre' f' al' y4 y6, lb1__law_drawn (gst ns (some (.int (i : Int))) (some (.int c)) x4 x6 pre f al) = .nx (gst ns (some (.int (i : Int))) (some (.int c)) y4 y6 pre' f' al') ∧ good (m + 1) pre' f' := by
  have hL := line_ge
  obtain ⟨hN0, hN1⟩ := mxd_ok c i
  have hmx := mixed_eq c i (by omega) (by omega)
  generalize mxd c i = N at *
  obtain ⟨hl, hok⟩ := ok_top pre f 4 hg.1
  obtain ⟨j, hj⟩ : ∃ j, 4 - pre.length = j + 1 := ⟨3 - pre.length, by omega⟩
  obtain ⟨NL, hNL, hV⟩ := vw_eq ns i c N (N / 8) pre f j hj
  have hsz := sz_top pre f 4 (by omega)
  have hsz2 := hg.2
  have hM : 0 ≤ N / 8 := by omega
  have hok0 := hok
  rw [hj] at hok hsz
  obtain ⟨k1, k2, k3, k4, k5⟩ := hok
  have hfs : szT (j + 1) f.t = 1 + f.hs.length + f.rs.length + (f.ps.map (szT j)).sum := rfl
  have hps := sum_ge (szT j) f.ps fun p _ => sz_pos j p
  have hup : good (m + 1) pre f := ⟨hg.1, by have := hg.2; omega⟩
  have hqT : (gst ns (some (.int (i : Int))) (some (.int c)) (some (.int N)) x6 pre f al).qs.getLast? = some (topP pre) := qsF_last pre
  have s0 : lb1__law_drawn (gst ns (some (.int (i : Int))) (some (.int c)) x4 x6 pre f al) = (kIf 1 5 cA (kSeq (kApp 1 5 plP (eCall0 d__law_open)) (kPush 1 5 (pIx 5 plP (e1 fNeg (eC (.int 1)))))) (kIf 1 5 cB kPop (kIf 1 5 cC (kApp 1 5 plH eH) (kIf 1 5 cDD (kApp 1 5 plR (eCall d__law_row [eO 6])) (kIf 1 5 cE kPop kPass))))) (gst ns (some (.int (i : Int))) (some (.int c)) (some (.int N)) (some (.int (N / 8))) pre f (some (topP pre))) := by
    rw [lb1_eq]
    show kSeq (kLift 1 5 (sSet 4 (eCall d__law_mixed [eO 3, eO 2]))) _ ⟨[some (.scr ns), none, some (.int (i : Int)), some (.int c), x4, none, x6], oD 4 (bl pre f), qsF pre, al⟩ = _
    rw [kSeq_nx (kLift4 ns i c N x4 x6 _ _ _ hmx)]
    have hT : kTop 1 5 ⟨[some (.scr ns), none, some (.int (i : Int)), some (.int c), some (.int N), none, x6], oD 4 (bl pre f), qsF pre, al⟩ = .nx ⟨[some (.scr ns), none, some (.int (i : Int)), some (.int c), some (.int N), none, x6], oD 4 (bl pre f), qsF pre, some (topP pre)⟩ := by
      simp only [kTop, qsF_last]
    show kSeq (kTop 1 5) _ ⟨[some (.scr ns), none, some (.int (i : Int)), some (.int c), some (.int N), none, x6], oD 4 (bl pre f), qsF pre, al⟩ = _
    rw [kSeq_nx hT, kSeq_nx (kLift6 ns i c N x6 _ _ _)]
    rfl
  have popc : ∀ b : Bool, b = decide (1 < NL.length) → b = true → ∃ pre' f' al' y4 y6, kPop (gst ns (some (.int (i : Int))) (some (.int c)) (some (.int N)) (some (.int (N / 8))) pre f (some (topP pre))) = .nx (gst ns (some (.int (i : Int))) (some (.int c)) y4 y6 pre' f' al') ∧ good (m + 1) pre' f' := by
    intro b hb hb2
    rw [hb2] at hb
    have : 1 < NL.length := of_decide_eq_true hb.symm
    have hne : pre ≠ [] := fun z => by subst z; simp at hNL; omega
    obtain ⟨pre0, g, rfl⟩ : ∃ p0 g, pre = p0 ++ [g] := ⟨_, _, (List.dropLast_concat_getLast hne).symm⟩
    exact ⟨pre0, _, _, _, _, kPop_eq _ _ _ _ _ pre0 g f _, pop_good hup⟩
  rw [s0]
  rw [kIf_bl (by rw [hV]; exact cA_eq ns i c N (N / 8) NL _ f.rs _)]
  cases hA : (decide (N % 8 < 3) && (decide (NL.length < 4) && (f.rs.isEmpty && decide ((f.ps.map (oD j)).length < 8)))) with
  | true =>
    simp only [Bool.and_eq_true, decide_eq_true_eq, List.length_map, List.isEmpty_iff] at hA
    obtain ⟨_, hA2, hA3, hA4⟩ := hA
    simp only [if_true]
    have hj2 : 1 ≤ j := by omega
    obtain ⟨j', rfl⟩ : ∃ j', j = j' + 1 := ⟨j - 1, by omega⟩
    have h1 := kApp_eq ns (some (.int (i : Int))) (some (.int c)) (some (.int N)) (some (.int (N / 8))) pre f ⟨f.hs, f.rs, f.ps ++ [Tr.nd [] [] []]⟩ plP (eCall0 d__law_open) _ [2] (f.ps.map (oD (j' + 1))) (oD (j' + 1) (.nd [] [] [])) hV (plP_eq ..) (by omega) (by rw [hj]; rfl) (open_eq ..) (by rw [List.length_map]; omega) (by
      rw [hj]
      show D.dic true KS [.lst true (f.hs.map ohD), .lst true (f.rs.map .str), .lst true (f.ps.map (oD (j' + 1)) ++ [oD (j' + 1) (.nd [] [] [])])] = .dic true KS [.lst true (f.hs.map ohD), .lst true (f.rs.map .str), .lst true ((f.ps ++ [Tr.nd [] [] []]).map (oD (j' + 1)))]
      rw [List.map_append]; rfl)
    rw [kSeq_nx h1]
    obtain ⟨NL', _, hV'⟩ := vw_eq ns i c N (N / 8) pre ⟨f.hs, f.rs, f.ps ++ [Tr.nd [] [] []]⟩ (j' + 1) hj
    have hgd : good (m + 1) pre ⟨f.hs, f.rs, f.ps ++ [Tr.nd [] [] []]⟩ := set_good hg (by
      rw [hj]
      refine ⟨k1, k2, .inl hA3, by simp; omega, fun p hp => ?_⟩
      rcases List.mem_append.mp hp with z | z
      · exact k5 p z
      · have : p = .nd [] [] [] := by simpa using z
        subst this
        exact ⟨by simp, by simp, .inl rfl, by simp, by simp⟩) (by
      rw [hj]
      simp only [Fr.t, szT, List.map_append, List.sum_append, List.map_cons, List.map_nil, List.sum_cons, List.sum_nil, List.length_nil]; omega)
    refine ⟨pre ++ [f], ⟨[], [], []⟩, some (topP pre), some (.int N), some (.int (N / 8)), ?_, ?_⟩
    · have hp : pIx 5 plP (e1 fNeg (eC (.int 1))) ((gst ns (some (.int (i : Int))) (some (.int c)) (some (.int N)) (some (.int (N / 8))) pre ⟨f.hs, f.rs, f.ps ++ [Tr.nd [] [] []]⟩ (some (topP pre))).vw 1 5) = .ok [2, f.ps.length] := by
        rw [hV']
        have := pIx_eq ns i c N (N / 8) NL' (f.hs.map ohD) (f.ps.map (oD (j' + 1))) (f.rs.map .str) (oD (j' + 1) (.nd [] [] []))
        rw [List.length_map] at this
        rw [List.map_append]; exact this
      have ha : (atP (topP pre ++ [2, f.ps.length]) (oD 4 (bl pre ⟨f.hs, f.rs, f.ps ++ [Tr.nd [] [] []]⟩))).isSome = true := by
        rw [at_top pre _ 4 _ (by omega), hj]
        simp [Fr.t, oD, atP, D.isO, D.kids]
      have hq : (qsF pre).length < LINE := by rw [qsF_len]; omega
      have e1 : qsF (pre ++ [f]) = qsF pre ++ [topP pre ++ [2, f.ps.length]] := qsF_push pre f
      have e2 := bl_push pre f
      have h0 : (gst ns (some (.int (i : Int))) (some (.int c)) (some (.int N)) (some (.int (N / 8))) pre ⟨f.hs, f.rs, f.ps ++ [Tr.nd [] [] []]⟩ (some (topP pre))).al = some (topP pre) := rfl
      have h3 : ((atP (topP pre ++ [2, f.ps.length]) (gst ns (some (.int (i : Int))) (some (.int c)) (some (.int N)) (some (.int (N / 8))) pre ⟨f.hs, f.rs, f.ps ++ [Tr.nd [] [] []]⟩ (some (topP pre))).T).isSome = true ∧ (gst ns (some (.int (i : Int))) (some (.int c)) (some (.int N)) (some (.int (N / 8))) pre ⟨f.hs, f.rs, f.ps ++ [Tr.nd [] [] []]⟩ (some (topP pre))).qs.length < LINE) := ⟨ha, hq⟩
      simp only [kPush, h0, hp, h3, and_self, if_true]
      simp only [gst, e1, e2]
    · unfold good; rw [← bl_push]; exact hgd
  | false =>
    simp only [Bool.false_eq_true, if_false]
    rw [kIf_bl (by rw [hV]; exact cB_eq ns i c N (N / 8) NL _ _ _)]
    cases hB : (decide (N % 8 = 3) && decide (1 < NL.length)) with
    | true =>
      simp only [if_true]
      exact popc true (by rw [Bool.and_eq_true] at hB; exact hB.2.symm) rfl
    | false =>
      simp only [Bool.false_eq_true, if_false]
      rw [kIf_bl (by rw [hV]; exact cC_eq ns i c N (N / 8) NL _ _ _)]
      cases hC : decide (N % 8 = 4) with
      | true =>
        simp only [if_true]
        obtain ⟨h, ho, he⟩ := eH_eq ns i c N (N / 8) NL (f.hs.map ohD) (f.ps.map (oD j)) (f.rs.map .str) hM
        refine ⟨pre, ⟨f.hs ++ [h], f.rs, f.ps⟩, _, _, _, kApp_eq ns _ _ _ _ pre f ⟨f.hs ++ [h], f.rs, f.ps⟩ plH eH _ [0] (f.hs.map ohD) (ohD h) hV (plH_eq ..) (by omega) (by rw [hj]; rfl) he (by rw [List.length_map]; omega) (by
          rw [hj]
          show D.dic true KS [.lst true (f.hs.map ohD ++ [ohD h]), .lst true (f.rs.map .str), .lst true (f.ps.map (oD j))] = .dic true KS [.lst true ((f.hs ++ [h]).map ohD), .lst true (f.rs.map .str), .lst true (f.ps.map (oD j))]
          rw [List.map_append]; rfl), ?_⟩
        refine set_good hg ?_ ?_
        · rw [hj]
          refine ⟨fun x hx => ?_, k2, k3, k4, k5⟩
          rcases List.mem_append.mp hx with z | z
          · exact k1 x z
          · have : x = h := by simpa using z
            subst this; exact ho
        · rw [hj]; simp only [Fr.t, szT, List.length_append, List.length_cons, List.length_nil]; omega
      | false =>
        simp only [Bool.false_eq_true, if_false]
        rw [kIf_bl (by rw [hV]; exact cD_eq ns i c N (N / 8) NL _ _ _)]
        cases hD : (f.ps.map (oD j)).isEmpty with
        | true =>
          simp only [if_true]
          have hp0 : f.ps = [] := by simpa using hD
          obtain ⟨r, ho, he⟩ := eR_eq ns i c N (N / 8) NL (f.hs.map ohD) (f.ps.map (oD j)) (f.rs.map .str) hM
          refine ⟨pre, ⟨f.hs, f.rs ++ [r], f.ps⟩, _, _, _, kApp_eq ns _ _ _ _ pre f ⟨f.hs, f.rs ++ [r], f.ps⟩ plR _ _ [1] (f.rs.map .str) (.str r) hV (plR_eq ..) (by omega) (by rw [hj]; rfl) he (by rw [List.length_map]; omega) (by
            rw [hj]
            show D.dic true KS [.lst true (f.hs.map ohD), .lst true (f.rs.map .str ++ [.str r]), .lst true (f.ps.map (oD j))] = .dic true KS [.lst true (f.hs.map ohD), .lst true ((f.rs ++ [r]).map .str), .lst true (f.ps.map (oD j))]
            rw [List.map_append]; rfl), ?_⟩
          refine set_good hg ?_ ?_
          · rw [hj]
            refine ⟨k1, fun x hx => ?_, .inr hp0, k4, k5⟩
            rcases List.mem_append.mp hx with z | z
            · exact k2 x z
            · have : x = r := by simpa using z
              subst this; exact ho
          · rw [hj]; simp only [Fr.t, szT, List.length_append, List.length_cons, List.length_nil]; omega
        | false =>
          simp only [Bool.false_eq_true, if_false]
          rw [kIf_bl (by rw [hV]; exact cE_eq ns i c N (N / 8) NL _ _ _)]
          cases hE : decide (1 < NL.length) with
          | true => simp only [if_true]; exact popc true hE.symm rfl
          | false =>
            simp only [Bool.false_eq_true, if_false]
            exact ⟨pre, f, _, _, _, rfl, hup⟩
end Lk21
set_option maxHeartbeats 1000000
namespace Lk21
open G
theorem cells (ns : List Int) : ∀ (xs : List Int) (i m : Nat) (pre : List Fr) (f : Fr) (x2 x3 x4 x6 : Option D) (al : Option (List Nat)), good m pre f → i + xs.length ≤ 63 → m + xs.length ≤ 100 →
    ∃ pre' f' al' y2 y3 y4 y6, forK (bT [2, 3]) lb1__law_drawn 1 5 (enumFrom (i : Int) (xs.map .int)) (gst ns x2 x3 x4 x6 pre f al) = .nx (gst ns y2 y3 y4 y6 pre' f' al') ∧ good (m + xs.length) pre' f'
  | [], i, m, pre, f, x2, x3, x4, x6, al, hg, _, _ => ⟨pre, f, al, x2, x3, x4, x6, rfl, hg⟩
  | c :: xs, i, m, pre, f, x2, x3, x4, x6, al, hg, h1, h2 => by
    simp only [List.length_cons] at h1 h2
    obtain ⟨p1, f1, al1, y4, y6, hs, hg1⟩ := step ns m (by omega) pre f hg i (by omega) c x4 x6 al
    obtain ⟨p2, f2, al2, z2, z3, z4, z6, hr, hg2⟩ := cells ns xs (i + 1) (m + 1) p1 f1 (some (.int (i : Int))) (some (.int c)) y4 y6 al1 hg1 (by omega) (by omega)
    refine ⟨p2, f2, al2, z2, z3, z4, z6, ?_, by rw [show m + (c :: xs).length = m + 1 + xs.length from by simp; omega]; exact hg2⟩
    have hb : bT [2, 3] (.tup true [.int (i : Int), .int c]) [some (.scr ns), none, x2, x3, x4, none, x6] = .ok [some (.scr ns), none, some (.int (i : Int)), some (.int c), x4, none, x6] := by
      simp only [bT_ap, bNs_cons, bNs_nil, sh_int, if_true, put_s, put_0]
    rw [show ((i + 1 : Nat) : Int) = (i : Int) + 1 by omega] at hr
    simp only [List.map_cons, enumFrom, forK]
    have hb2 : bT [2, 3] (.tup true [.int (i : Int), .int c]) (gst ns x2 x3 x4 x6 pre f al).ρ = .ok [some (.scr ns), none, some (.int (i : Int)), some (.int c), x4, none, x6] := hb
    have hk : okS 1 5 [some (.scr ns), none, some (.int (i : Int)), some (.int c), x4, none, x6] = true := rfl
    have hs2 : lb1__law_drawn { gst ns x2 x3 x4 x6 pre f al with ρ := [some (.scr ns), none, some (.int (i : Int)), some (.int c), x4, none, x6] } = .nx (gst ns (some (.int (i : Int))) (some (.int c)) y4 y6 p1 f1 al1) := hs
    simp only [hb2, nox_ok', hk, if_true, hs2]
    exact hr
theorem drawn_ok (ns : List Int) : ∃ t : Tr, d__law_drawn [.scr ns] = .ok (oD 4 t) ∧ okT 4 t ∧ szT 4 t ≤ 64 := by
  have hcut : cutD (.scr ns) none (some 63) = some (.lst true ((ns.take 63).map .int)) := by
    have h := cut_hiN ns 63
    simp only [cutD]
    rw [show ((63 : Nat) : Int) = 63 from rfl] at h
    rw [h]
  have hcl : (ns.take 63).length ≤ 63 := by rw [List.length_take]; omega
  have hg0 : good 1 [] ⟨[], [], []⟩ := ⟨⟨by simp, by simp, .inl rfl, by simp, by simp⟩, by simp [bl, Fr.t, szT]⟩
  obtain ⟨pre, f, al, y2, y3, y4, y6, hr, hg⟩ := cells ns (ns.take 63) 0 1 [] ⟨[], [], []⟩ none none none none none hg0 (by omega) (by omega)
  refine ⟨bl pre f, ?_, hg.1, Nat.le_trans hg.2 (by omega)⟩
  rw [d__law_drawn]
  simp only [runF]
  show endF (b__law_drawn [some (.scr ns), none, none, none, none, none, none]) = _
  have h1 : sSet 1 (eL [eCall0 d__law_open]) [some (.scr ns), none, none, none, none, none, none] = .nx [some (.scr ns), some (.lst true [oD 4 (.nd [] [] [])]), none, none, none, none, none] := by
    have : eL [eCall0 d__law_open] [some (.scr ns), none, none, none, none, none, none] = .ok (.lst true [oD 4 (.nd [] [] [])]) := rfl
    simp only [sSet_ap, this, sE_ok, put_s, put_0]
  have hv : ∀ V : Env, (get V 0 = .ok (.scr ns)) → iEnum (iLstS (eFrz (eSlHi (eO 0) (eC (.int 63))))) V = .ok (enumFrom 0 ((ns.take 63).map .int)) := fun V hV => by
    simp only [iEnum_ap, iLstS_ap, eFrz_ap, eSlHi_ap, eO_ap, eC_ap, hV, bind_ok, hcut, of_some, frz_lst, frzs_int]
  have h2 : kFor 1 5 (iEnum (iLstS (eFrz (eSlHi (eO 0) (eC (.int 63)))))) (bT [2, 3]) lb1__law_drawn (gst ns none none none none [] ⟨[], [], []⟩ none) = .nx (gst ns y2 y3 y4 y6 pre f al) := by
    have := hv ((gst ns none none none none [] ⟨[], [], []⟩ none).vw 1 5) rfl
    simp only [kFor, this]
    exact hr
  obtain ⟨qr, hq⟩ := qsF_head pre
  have h3 : kRet (gst ns y2 y3 y4 y6 pre f al) = .rt (oD 4 (bl pre f)) (gst ns y2 y3 y4 y6 pre f al).ρ := by
    have : (gst ns y2 y3 y4 y6 pre f al).qs = [] :: qr := hq
    simp only [kRet, this]; rfl
  have h4 : sStk 1 5 (kSeq (kFor 1 5 (iEnum (iLstS (eFrz (eSlHi (eO 0) (eC (.int 63)))))) (bT [2, 3]) lb1__law_drawn) kRet) [some (.scr ns), some (.lst true [oD 4 (.nd [] [] [])]), none, none, none, none, none] = .rt (oD 4 (bl pre f)) (gst ns y2 y3 y4 y6 pre f al).ρ := by
    show (match kSeq (kFor 1 5 (iEnum (iLstS (eFrz (eSlHi (eO 0) (eC (.int 63)))))) (bT [2, 3]) lb1__law_drawn) kRet (gst ns none none none none [] ⟨[], [], []⟩ none) with
      | .rt d ρ' => Out.rt d ρ'
      | _ => .no) = _
    rw [kSeq_nx h2, h3]
  simp only [b__law_drawn, sSeq_ap, h1, then_nx, h4, endF_rt]
end Lk21
set_option maxHeartbeats 1000000
namespace Lk21
open G
abbrev PF : List String := ["headers", "row", "pieces"]
def pc (hs row ps : D) : D := .ins false "Piece" PF [hs, row, ps]
def l1 (x : D) : D := .lst false [x]
def gH : D := hdrD false t_b t_c
def gd : D := l1 gH
def p0 : D := pc (.lst false []) (l1 (.int 98)) .non
def dpD : Nat → D → D
  | 0, x => x
  | k + 1, x => pc gd .non (.lst false [p0, dpD k x])
def gp : D := pc gd (l1 (.int 98)) .non
def PP (vs : List D) : D := .ins false "Piece" PF vs
def th1 : List D := [.non, .int 5, .str t_row, .lst false [], .dic false [] [], .bl true, pc gd .non .non]
def th7 (vs : List D) : D := pc gd (l1 (.int 98)) (l1 (PP vs))
def th2 : List D := [pc gd .non (.lst false [])]
def th3 : List D := [pc gd (l1 (.int 256)) .non, pc gd (l1 (.int (-1))) .non, pc gd (l1 (.bl true)) .non, pc gd (l1 (.str t_b)) .non, pc gd (l1 .non) .non]
def th4 : List D := [pc (.lst false [gH, .int 5]) (l1 (.int 98)) .non, pc (l1 (.str t_b)) (l1 (.int 98)) .non, pc (l1 (hdrD false t_body t_plain)) (l1 (.int 98)) .non]
def th5 : List D := [pc gd .non (.lst false [p0, p0, p0, p0, p0, p0, p0, p0, p0]), pc gd .non (l1 .non), pc gd .non (l1 gd)]
def th6 : List D := [dpD 4 gp, pc gd (.lst false [.int 98, .int 100000000000000000000]) .non, pc .non (l1 (.int 98)) .non]
def th8 : List D := [pc (l1 .non) .non (l1 p0), pc gd (.str t_row) .non]
def th25 (vs : List D) : D := pc gd .non (PP vs)
def thing (vs : List D) : List D := (th1 ++ [th7 vs] ++ th2) ++ th3 ++ th4 ++ th5 ++ th6 ++ (th8 ++ [th25 vs])
theorem thing_no (vs : List D) : ∀ x ∈ thing vs, d_is_piece 20 [x, .int 4] = .ok (.bl false) ∧ d_is_piece 19 [x, .int 3] = .ok (.bl false) ∧ d_is_piece 18 [x, .int 2] = .ok (.bl false) ∧ d_is_piece 17 [x, .int 1] = .ok (.bl false) := by
  have h : ∀ x ∈ thing vs, (d_is_piece 20 [x, .int 4] = .ok (.bl false) ∧ d_is_piece 19 [x, .int 3] = .ok (.bl false)) ∧ d_is_piece 18 [x, .int 2] = .ok (.bl false) ∧ d_is_piece 17 [x, .int 1] = .ok (.bl false) := by
    intro x hx
    simp only [thing, th1, th2, th3, th4, th5, th6, th8, List.cons_append, List.nil_append, List.mem_cons, List.not_mem_nil, or_false] at hx
    rcases hx with rfl | rfl | rfl | rfl | rfl | rfl | rfl | rfl | rfl | rfl | rfl | rfl | rfl | rfl | rfl | rfl | rfl | rfl | rfl | rfl | rfl | rfl | rfl | rfl | rfl | rfl <;> exact ⟨⟨rfl, rfl⟩, rfl, rfl⟩
  intro x hx
  obtain ⟨⟨a, b⟩, c, d⟩ := h x hx
  exact ⟨a, b, c, d⟩
end Lk21
set_option maxHeartbeats 1000000
namespace Lk21
open G
def WE : D := .lst true [.bl true, .bl false, .bl false, .bl false, .bl false, .bl false, .bl false, .bl false, .bl true]
theorem word_no (x : D) (hs : x.sh = true) (h : d_is_piece 20 [x, .int 4] = .ok (.bl false)) : d__law_word_of [x] = .ok WE := by
  have hf := frz_of_sh x hs
  have h1 : d_need_piece [x] = .ex "BadPiece" [] := by
    simp_arith! [d_need_piece, b_need_piece, hf, h, hs]
  have h2 : d_piece_rows [x] = .ex "BadPiece" [] := by
    simp_arith! [d_piece_rows, b_piece_rows, hf, h1, hs]
  have h3 : sTryKeep (sDrop (eCall d_piece_rows [eO 0])) (supL es_HouseError) 2 1 [some x, some .non, none, none] = .nx [some x, some (xD "BadPiece" []), none, none] := by
    have : sDrop (eCall d_piece_rows [eO 0]) [some x, some .non, none, none] = .xc "BadPiece" [] [some x, some .non, none, none] := by
      simp_arith! [hf, h2]
    simp only [sTryKeep, this]
    rfl
  have h0 : sSet 1 (eC .non) [some x, none, none, none] = .nx [some x, some .non, none, none] := rfl
  show endF (b__law_word_of [some x, none, none, none]) = _
  unfold b__law_word_of
  rw [sSeq_ap, h0, then_nx, sSeq_ap, h3, then_nx]
  generalize hy : x = y at *
  clear h h1 h2 h3 h0 hf hs
  rfl
theorem word_yes (x l : D) (hs : x.sh = true) (h : d_piece_rows [x] = .ok l) (hl : l.ow = true) : d__law_word_of [x] = .ok (.lst true []) := by
  have hf := frz_of_sh x hs
  have h3 : sTryKeep (sDrop (eCall d_piece_rows [eO 0])) (supL es_HouseError) 2 1 [some x, some .non, none, none] = .nx [some x, some .non, none, none] := by
    have : sDrop (eCall d_piece_rows [eO 0]) [some x, some .non, none, none] = .nx [some x, some .non, none, none] := by
      simp_arith! [hf, h, hl, Bool.true_or, if_true]
    simp only [sTryKeep, this]
  have h0 : sSet 1 (eC .non) [some x, none, none, none] = .nx [some x, some .non, none, none] := rfl
  show endF (b__law_word_of [some x, none, none, none]) = _
  unfold b__law_word_of
  rw [sSeq_ap, h0, then_nx, sSeq_ap, h3, then_nx]
  rfl
theorem wrap_no (n : Nat) (j : Int) (h x : D) (w : Tx) (hI : fIsI ci_Header h = some (.bl true)) (hN : fFldO "Header" "name" h = some (.str w)) (hb : w ≠ t_body) (hj : j ≠ 0) (hs : x.sh = true)
    (h0 : d_is_piece n [p0, .int (j - 1)] = .ok (.bl true)) (h1 : d_is_piece n [x, .int (j - 1)] = .ok (.bl false)) :
    d_is_piece (n + 1) [pc (l1 h) .non (.lst false [p0, x]), .int j] = .ok (.bl false) := by
  have hL := line_ge
  rw [d_is_piece_succ]
  have i1 : fIsI ci_Piece (pc (l1 h) .non (.lst false [p0, x])) = some (.bl true) := rfl
  have z1 : decide (j = 0) = false := decide_eq_false hj
  have q1 : fFldO "Piece" "headers" (pc (l1 h) .non (.lst false [p0, x])) = some (.lst false [h]) := rfl
  have q2 : fFldO "Piece" "row" (pc (l1 h) .non (.lst false [p0, x])) = some .non := rfl
  have q3 : fFldO "Piece" "pieces" (pc (l1 h) .non (.lst false [p0, x])) = some (.lst false [p0, x]) := rfl
  have t1 : fIsTI .list ct_list (.lst false [h]) = some (.bl true) := rfl
  have t2 : fIsTI .list ct_list (.lst false [p0, x]) = some (.bl true) := rfl
  have n1 : fIsN (.lst false [p0, x]) = some (.bl false) := rfl
  have n2 : fNotN .non = some (.bl false) := rfl
  have d1 : decide (w = t_body) = false := decide_eq_false hb
  have g1 : fLen (.lst false [p0, x]) = some (.int 2) := rfl
  have hf := frz_of_sh x hs
  have pf : p0.frz = p0 := rfl
  have ps : p0.sh = true := rfl
  have a1 : fAll (.lst true [.bl true]) = some (.bl true) := rfl
  have a2 : fAll (.lst true [.bl true, .bl false]) = some (.bl false) := rfl
  have hs1 : fSub (.int j) (.int 1) = some (.int (j - 1)) := rfl
  have k1 : 1 ≤ LINE := by omega
  have k2 : 2 ≤ LINE := by omega
  generalize j - 1 = J at *
  generalize pc (l1 h) .non (.lst false [p0, x]) = P at *
  have c1 : compL (cN 3) eYes (le1_is_piece (d_is_piece n)) [some P, some (.int j), none, none] [h] = .ok [.bl true] := by
    simp only [compL]
    simp_arith! [le1_is_piece, hI, hN, d1, eYes]
  have c2 : compL (cN 2) eYes (le2_is_piece (d_is_piece n)) [some P, some (.int j), none, none] [p0, x] = .ok [.bl true, .bl false] := by
    generalize p0 = Q at *
    simp only [compL]
    simp_arith! [le2_is_piece, hs1, hf, hs, h0, h1, pf, ps, eYes]
  generalize p0 = Q at *
  simp_arith! [runF, b_is_piece, i1, z1, q1, q2, q3, t1, t2, n1, n2, g1, c1, a1, c2, a2, k1, k2]
end Lk21
set_option maxHeartbeats 1000000
namespace Lk21
open G
theorem cpd_lst (xs : List D) (h : shs xs = true) : d_copied [.lst false xs] = .ok (.lst true xs) := by
  have h1 : fIsTI .list ct_list (.lst false xs) = some (.bl true) := rfl
  have h2 : fList (.lst false xs) = some (.lst true xs) := by simp only [fList, h, if_true]
  simp_arith! [d_copied, b_copied, runF, h1, h2]
theorem pinit (a b c x y z : D) (ha : a.sh = true) (hb : b.sh = true) (hc : c.sh = true) (h1 : d_copied [a] = .ok x) (h2 : d_copied [b] = .ok y) (h3 : d_copied [c] = .ok z) :
    d_Piece___init__ [.ins true "Piece" [] [], a, b, c] = .ok .non (.ins true "Piece" PF [x, y, z]) := by
  have fa := frz_of_sh a ha
  have fb := frz_of_sh b hb
  have fc := frz_of_sh c hc
  have s1 := setF 0 "Piece" "headers" (eCall d_copied [eO 1]) [some (.ins true "Piece" [] []), some a, some b, some c] x [] [] (by simp_arith! [fa, ha, h1]) rfl (by simp) (by decide)
  have s2 := setF 0 "Piece" "row" (eCall d_copied [eO 2]) [some (.ins true "Piece" ["headers"] [x]), some a, some b, some c] y ["headers"] [x] (by simp_arith! [fb, hb, h2]) rfl (by simp) (by decide)
  have s3 := setF 0 "Piece" "pieces" (eCall d_copied [eO 3]) [some (.ins true "Piece" ["headers", "row"] [x, y]), some a, some b, some c] z ["headers", "row"] [x, y] (by simp_arith! [fc, hc, h3]) rfl (by simp) (by decide)
  have e1 : setFn "headers" [] = ["headers"] := rfl
  have e2 : setFv "headers" x [] [] = [x] := rfl
  have e3 : setFn "row" ["headers"] = ["headers", "row"] := by simp [setFn]
  have e4 : setFv "row" y ["headers"] [x] = [x, y] := by simp [setFv]
  have e5 : setFn "pieces" ["headers", "row"] = PF := by simp [setFn]
  have e6 : setFv "pieces" z ["headers", "row"] [x, y] = [x, y, z] := by simp [setFv]
  rw [e1, e2] at s1
  rw [e3, e4] at s2
  rw [e5, e6] at s3
  simp_arith! [d_Piece___init__, b_Piece___init__, s1, s2, s3]
theorem mk3 (ρ : Env) (e1 e2 e3 : E) (a b c x y z : D) (g1 : e1 ρ = .ok a) (g2 : e2 ρ = .ok b) (g3 : e3 ρ = .ok c) (ha : a.sh = true) (hb : b.sh = true) (hc : c.sh = true) (h1 : d_copied [a] = .ok x) (h2 : d_copied [b] = .ok y) (h3 : d_copied [c] = .ok z) :
    eMake "Piece" d_Piece___init__ [e1, e2, e3] ρ = .ok (.ins true "Piece" PF [x, y, z]) := by
  have hp := pinit a b c x y z ha hb hc h1 h2 h3
  have hs : shs [a, b, c] = true := by rw [shs_cons, shs_cons, shs_cons, shs_nil, ha, hb, hc]; rfl
  simp only [eMake_ap, eArgs_cons, eArgs_nil, g1, g2, g3, bind_ok, hs, if_true, hp]
theorem eArgs_app : ∀ (es fs : List E) (ρ : Env) (ds ds' : List D), eArgs es ρ = .ok ds → eArgs fs ρ = .ok ds' → eArgs (es ++ fs) ρ = .ok (ds ++ ds')
  | [], fs, ρ, ds, ds', h1, h2 => by
    have : ds = [] := by
      have : Res.ok [] = Res.ok ds := h1
      injection this with h; exact h.symm
    subst this; exact h2
  | e :: es, fs, ρ, ds, ds', h1, h2 => by
    rw [eArgs_cons] at h1
    cases he : e ρ with
    | no => rw [he] at h1; exact nomatch h1
    | ex c f => rw [he] at h1; exact nomatch h1
    | ok d =>
      rw [he, bind_ok] at h1
      cases hes : eArgs es ρ with
      | no => rw [hes] at h1; exact nomatch h1
      | ex c f => rw [hes] at h1; exact nomatch h1
      | ok ds0 =>
        rw [hes, bind_ok] at h1
        injection h1 with h1
        subst h1
        show eArgs (e :: (es ++ fs)) ρ = _
        rw [eArgs_cons, he, bind_ok, eArgs_app es fs ρ ds0 ds' hes h2, bind_ok]; rfl
def eP0 : E := eMakeD "Piece" d_Piece___init__ [.non] [eFrz (eL []), eFrz (eL [eC (.int 98)])]
def eGp : E := eMakeD "Piece" d_Piece___init__ [.non] [eO 2, eFrz (eL [eC (.int 98)])]
def L1a : List E := [eC .non, eC (.int 5), eC (.str t_row), eL [], eD0, eC (.bl true), eMakeD "Piece" d_Piece___init__ [.non, .non] [eO 2]]
def L17 : E := eMake "Piece" d_Piece___init__ [eO 2, eFrz (eL [eC (.int 98)]), eFrz (eL [eV 1])]
def L1b : List E := [eMake "Piece" d_Piece___init__ [eO 2, eC .non, eFrz (eL [])]]
def La2 : List E := [eMakeD "Piece" d_Piece___init__ [.non] [eO 2, eFrz (eL [eC (.int 256)])], eMakeD "Piece" d_Piece___init__ [.non] [eO 2, eFrz (eL [e1 fNeg (eC (.int 1))])], eMakeD "Piece" d_Piece___init__ [.non] [eO 2, eFrz (eL [eC (.bl true)])], eMakeD "Piece" d_Piece___init__ [.non] [eO 2, eFrz (eL [eC (.str t_b)])], eMakeD "Piece" d_Piece___init__ [.non] [eO 2, eFrz (eL [eC .non])]]
def L3 : List E := [eMakeD "Piece" d_Piece___init__ [.non] [eFrz (e2 fAdd (eO 2) (eL [eC (.int 5)])), eFrz (eL [eC (.int 98)])], eMakeD "Piece" d_Piece___init__ [.non] [eFrz (eL [eC (.str t_b)]), eFrz (eL [eC (.int 98)])], eMakeD "Piece" d_Piece___init__ [.non] [eFrz (eL [eMake "Header" d_Header___init__ [eC (.str t_body), eC (.str t_plain)]]), eFrz (eL [eC (.int 98)])]]
def L4 : List E := [eMake "Piece" d_Piece___init__ [eO 2, eC .non, eFrz (e2 fMul (eFrz (eL [eP0])) (eC (.int 9)))], eMake "Piece" d_Piece___init__ [eO 2, eC .non, eFrz (eL [eC .non])], eMake "Piece" d_Piece___init__ [eO 2, eC .non, eFrz (eL [eV 2])]]
def L5 : List E := [eCall d__law_deep [eC (.int 4), eFrz eGp], eMakeD "Piece" d_Piece___init__ [.non] [eO 2, eFrz (eL [eC (.int 98), e2 fPow (eC (.int 10)) (eC (.int 20))])], eMakeD "Piece" d_Piece___init__ [.non] [eC .non, eFrz (eL [eC (.int 98)])]]
def L6a : List E := [eMake "Piece" d_Piece___init__ [eFrz (eL [eC .non]), eC .non, eFrz (eL [eP0])], eMakeD "Piece" d_Piece___init__ [.non] [eO 2, eC (.str t_row)]]
def L66 : E := eMake "Piece" d_Piece___init__ [eO 2, eC .non, eO 1]
variable (n : Int) (vs : List D) (hv : shs vs = true) (X : List D)
abbrev en (n : Int) (vs : List D) (x3 x4 x5 x6 x7 : Option D) : Env := [some (.int n), some (PP vs), some gd, x3, x4, x5, x6, x7]
theorem PP_sh (hv : shs vs = true) : (PP vs).sh = true := by
  show (!false && shs vs) = true
  rw [hv]; rfl
theorem a1_eq (x3 : Option D) : ∃ ds, eArgs L1a (en n vs x3 none none none none) = .ok ds ∧ frzs ds = th1 := ⟨_, rfl, rfl⟩
theorem a2_eq (x3 : Option D) : ∃ ds, eArgs L1b (en n vs x3 none none none none) = .ok ds ∧ frzs ds = th2 := ⟨_, rfl, rfl⟩
theorem a3_eq (x3 : Option D) : ∃ ds, eArgs La2 (en n vs x3 none none none none) = .ok ds ∧ frzs ds = th3 := ⟨_, rfl, rfl⟩
theorem a4_eq (x3 : Option D) : ∃ ds, eArgs L3 (en n vs x3 none none none none) = .ok ds ∧ frzs ds = th4 := ⟨_, rfl, rfl⟩
theorem a5_eq (x3 : Option D) : ∃ ds, eArgs L4 (en n vs x3 none none none none) = .ok ds ∧ frzs ds = th5 := ⟨_, rfl, rfl⟩
theorem a6_eq (x3 : Option D) : ∃ ds, eArgs L5 (en n vs x3 none none none none) = .ok ds ∧ frzs ds = th6 := ⟨_, rfl, rfl⟩
theorem a8_eq (x3 : Option D) : ∃ ds, eArgs L6a (en n vs x3 none none none none) = .ok ds ∧ frzs ds = th8 := ⟨_, rfl, rfl⟩
include hv in
theorem a7_eq (x3 : Option D) : ∃ ds, eArgs [L17] (en n vs x3 none none none none) = .ok ds ∧ frzs ds = [th7 vs] := by
  have hs := PP_sh vs hv
  have hf := frz_of_sh _ hs
  have hl : (l1 (PP vs)).sh = true := by
    show (!false && shs [PP vs]) = true
    rw [shs_cons, hs]; rfl
  have e3 : eFrz (eL [eV 1]) (en n vs x3 none none none none) = .ok (l1 (PP vs)) := by
    unfold l1 en
    generalize PP vs = Q at *
    have : eFrz (eL [eV 1]) [some (.int n), some Q, some gd, x3, none, none, none, none] = .ok (.lst false [Q]) := by
      simp_arith! [hs, hf, frz_lst, frzs_cons, frzs_nil]
    exact this
  have hk := mk3 (en n vs x3 none none none none) (eO 2) (eFrz (eL [eC (.int 98)])) (eFrz (eL [eV 1])) gd (l1 (.int 98)) (l1 (PP vs)) _ _ _ rfl rfl e3 rfl rfl hl rfl rfl (cpd_lst [PP vs] (by rw [shs_cons, hs]; rfl))
  refine ⟨_, by rw [eArgs_cons, L17, hk]; rfl, ?_⟩
  rw [frzs_cons, frzs_nil]
  show [D.ins false "Piece" PF (frzs [.lst true [gH], .lst true [.int 98], .lst true [PP vs]])] = _
  rw [frzs_cons, frzs_cons, frzs_cons, frzs_nil, frz_lst, frz_lst, frz_lst, frzs_cons, frzs_cons, frzs_cons, hf]; rfl
include hv in
theorem a9_eq (x3 : Option D) : ∃ ds, eArgs [L66] (en n vs x3 none none none none) = .ok ds ∧ frzs ds = [th25 vs] := by
  have hs := PP_sh vs hv
  have hf := frz_of_sh _ hs
  have hk := mk3 (en n vs x3 none none none none) (eO 2) (eC .non) (eO 1) gd .non (PP vs) _ _ _ rfl rfl rfl rfl rfl hs rfl rfl rfl
  refine ⟨_, by rw [eArgs_cons, L66, hk]; rfl, ?_⟩
  rw [frzs_cons, frzs_nil]
  show [D.ins false "Piece" PF (frzs [.lst true [gH], .non, PP vs])] = _
  rw [frzs_cons, frzs_cons, frzs_cons, frzs_nil, hf]; rfl
end Lk21
set_option maxHeartbeats 1000000
namespace Lk21
open G
def add (L : List E) : E := eFrz (e2 fAdd (eO 3) (eFrz (eFrz (eL L))))
theorem frz_lst' (ds : List D) (o : Bool) : (D.lst o ds).frz = .lst false (frzs ds) := rfl
theorem lst_eq (L : List E) (ρ : Env) (ds Y : List D) (h : eArgs L ρ = .ok ds) (hf : frzs ds = Y) (hY : shs Y = true) : eFrz (eFrz (eL L)) ρ = .ok (.lst false Y) := by
  have h2 := frzs_of_shs Y hY
  simp only [eFrz_ap, eL_ap, h, bind_ok, frz_lst', hf, h2]
theorem add_eq (L : List E) (x0 x1 x2 : Option D) (X ds Y : List D) (h : eArgs L [x0, x1, x2, some (.lst false X), none, none, none, none] = .ok ds) (hf : frzs ds = Y) (hX : shs X = true) (hY : shs Y = true) (hl : X.length + Y.length ≤ 1000) :
    sSet 3 (add L) [x0, x1, x2, some (.lst false X), none, none, none, none] = .nx [x0, x1, x2, some (.lst false (X ++ Y)), none, none, none, none] := by
  have hL := line_ge
  have h1 := lst_eq L _ ds Y h hf hY
  have hl2 : X.length + Y.length ≤ LINE := by omega
  have h2 : fAdd (.lst false X) (.lst false Y) = some (.lst true (X ++ Y)) := by simp only [fAdd, hX, hY, hl2, decide_true, Bool.and_self, if_true]
  have h3 : frzs (X ++ Y) = X ++ Y := frzs_of_shs _ (by rw [shs_app, hX, hY]; rfl)
  simp only [add, sSet_ap, eFrz_ap, e2_ap, eO_ap, get_s, get_0, bind_ok]
  simp only [eFrz_ap] at h1
  simp only [h1, bind_ok, h2, of_some, frz_lst', h3, sE_ok, put_s, put_0]
def eFar : E := eFrz (eMake "Piece" d_Piece___init__ [eO 5, eC .non, eFrz (eL [eP0, e2 fIx (eO 3) (e2 fMod (e2 fDiv (eO 0) (eC (.int 2028))) (eC (.int 26)))])])
def eLong : E := eFrz (eL [eMake "Header" d_Header___init__ [eC (.str t_x), eFrz (e2 fMul (eC (.str t_b)) (e2 fAdd (eC (.int 60)) (e2 fMod (eO 0) (eC (.int 9)))))]])
def eExp : E := e2 fAdd (e2 fAdd (eL [eC (.bl true)]) (e2 fMul (eL [eC (.bl false)]) (eC (.int 7)))) (eL [eC (.bl true)])
def eThree : E := eFrz (eL [e2 fIx (eO 3) (e2 fMod (eO 0) (eC (.int 26))), eCall d__law_deep [e2 fAdd (eC (.int 1)) (e2 fMod (e2 fDiv (eO 0) (eC (.int 26))) (eC (.int 3))), e2 fIxO (eO 3) (e2 fMod (e2 fDiv (eO 0) (eC (.int 78))) (eC (.int 26)))], eV 6])
def eLast : E := e2 fEq (eCall d__law_word_of [eCall d__law_deep [eC (.int 3), eFrz eGp]]) (eL [])
theorem refused_den : b__law_refused = sSeq (sSet 2 (eFrz (eL [eMake "Header" d_Header___init__ [eC (.str t_b), eC (.str t_c)]]))) (sSeq (sSet 3 (eFrz (eFrz (eL (L1a ++ [L17] ++ L1b))))) (sSeq (sSet 3 (add La2)) (sSeq (sSet 3 (add L3)) (sSeq (sSet 3 (add L4)) (sSeq (sSet 3 (add L5)) (sSeq (sSet 3 (add (L6a ++ [L66]))) (sSeq (sSet 4 eExp) (sSeq (sSet 5 eLong) (sSeq (sSet 6 eFar) (sSeq (sFor (iLstS eThree) (bN 7) lb1__law_refused) (sRet eLast))))))))))) := rfl
variable (vs : List D) (hv : shs vs = true)
include hv in
theorem th7_sh : shs [th7 vs] = true := by
  have := PP_sh vs hv
  show ((!false && shs [gd, l1 (.int 98), l1 (PP vs)]) && true) = true
  rw [shs_cons, shs_cons, shs_cons, shs_nil]
  show ((!false && (true && (true && ((!false && shs [PP vs]) && true)))) && true) = true
  rw [shs_cons, this]; rfl
include hv in
theorem th25_sh : shs [th25 vs] = true := by
  have := PP_sh vs hv
  show ((!false && shs [gd, .non, PP vs]) && true) = true
  rw [shs_cons, shs_cons, shs_cons, shs_nil, this]; rfl
theorem th1_sh : shs th1 = true := rfl
theorem th2_sh : shs th2 = true := rfl
theorem th3_sh : shs th3 = true := rfl
theorem th4_sh : shs th4 = true := rfl
theorem th5_sh : shs th5 = true := rfl
theorem th6_sh : shs th6 = true := rfl
theorem th8_sh : shs th8 = true := rfl
include hv in
theorem thing_sh : shs (thing vs) = true := by
  unfold thing
  simp only [shs_app, th7_sh vs hv, th25_sh vs hv, th1_sh, th2_sh, th3_sh, th4_sh, th5_sh, th6_sh, th8_sh, Bool.and_self]
theorem thing_len : (thing vs).length = 26 := rfl
include hv in
theorem stages (n : Int) : ∃ ρ : Env, ρ = en n vs (some (.lst false (thing vs))) none none none none ∧ ∀ F : Sd, (sSeq (sSet 2 (eFrz (eL [eMake "Header" d_Header___init__ [eC (.str t_b), eC (.str t_c)]]))) (sSeq (sSet 3 (eFrz (eFrz (eL (L1a ++ [L17] ++ L1b))))) (sSeq (sSet 3 (add La2)) (sSeq (sSet 3 (add L3)) (sSeq (sSet 3 (add L4)) (sSeq (sSet 3 (add L5)) (sSeq (sSet 3 (add (L6a ++ [L66]))) F))))))) [some (.int n), some (PP vs), none, none, none, none, none, none] = F ρ := by
  refine ⟨_, rfl, fun F => ?_⟩
  have h0 : sSet 2 (eFrz (eL [eMake "Header" d_Header___init__ [eC (.str t_b), eC (.str t_c)]])) [some (.int n), some (PP vs), none, none, none, none, none, none] = .nx (en n vs none none none none none) := rfl
  obtain ⟨d1, a1, b1⟩ := a1_eq n vs none
  obtain ⟨d7, a7, b7⟩ := a7_eq n vs hv none
  obtain ⟨d2, a2, b2⟩ := a2_eq n vs none
  have s7 := th7_sh vs hv
  have s25 := th25_sh vs hv
  have sA : shs (th1 ++ [th7 vs] ++ th2) = true := by simp only [shs_app, s7, th1_sh, th2_sh, Bool.and_self]
  have k1 := lst_eq (L1a ++ [L17] ++ L1b) _ _ (th1 ++ [th7 vs] ++ th2) (eArgs_app _ _ _ _ _ (eArgs_app _ _ _ _ _ a1 a7) a2) (by rw [frzs_app, frzs_app, b1, b7, b2]) sA
  have h1 : sSet 3 (eFrz (eFrz (eL (L1a ++ [L17] ++ L1b)))) (en n vs none none none none none) = .nx (en n vs (some (.lst false (th1 ++ [th7 vs] ++ th2))) none none none none) := by
    rw [sSet_ap, k1, sE_ok]; rfl
  obtain ⟨d3, a3, b3⟩ := a3_eq n vs (some (.lst false (th1 ++ [th7 vs] ++ th2)))
  have h2 := add_eq La2 _ _ _ _ d3 th3 a3 b3 sA th3_sh (by simp [th1, th2, th3])
  obtain ⟨d4, a4, b4⟩ := a4_eq n vs (some (.lst false ((th1 ++ [th7 vs] ++ th2) ++ th3)))
  have h3 := add_eq L3 _ _ _ _ d4 th4 a4 b4 (by rw [shs_app, sA, th3_sh]; rfl) th4_sh (by simp [th1, th2, th3, th4])
  obtain ⟨d5, a5, b5⟩ := a5_eq n vs (some (.lst false ((th1 ++ [th7 vs] ++ th2) ++ th3 ++ th4)))
  have h4 := add_eq L4 _ _ _ _ d5 th5 a5 b5 (by rw [shs_app, shs_app, sA, th3_sh, th4_sh]; rfl) th5_sh (by simp [th1, th2, th3, th4, th5])
  obtain ⟨d6, a6, b6⟩ := a6_eq n vs (some (.lst false ((th1 ++ [th7 vs] ++ th2) ++ th3 ++ th4 ++ th5)))
  have h5 := add_eq L5 _ _ _ _ d6 th6 a6 b6 (by rw [shs_app, shs_app, shs_app, sA, th3_sh, th4_sh, th5_sh]; rfl) th6_sh (by simp [th1, th2, th3, th4, th5, th6])
  obtain ⟨d8, a8, b8⟩ := a8_eq n vs (some (.lst false ((th1 ++ [th7 vs] ++ th2) ++ th3 ++ th4 ++ th5 ++ th6)))
  obtain ⟨d9, a9, b9⟩ := a9_eq n vs hv (some (.lst false ((th1 ++ [th7 vs] ++ th2) ++ th3 ++ th4 ++ th5 ++ th6)))
  have h6 := add_eq (L6a ++ [L66]) _ _ _ _ (d8 ++ d9) (th8 ++ [th25 vs]) (eArgs_app _ _ _ _ _ a8 a9) (by rw [frzs_app, b8, b9]) (by rw [shs_app, shs_app, shs_app, shs_app, sA, th3_sh, th4_sh, th5_sh, th6_sh]; rfl) (by rw [shs_app, th8_sh, s25]; rfl) (by simp [th1, th2, th3, th4, th5, th6, th8])
  rw [sSeq_ap, h0, then_nx, sSeq_ap, h1, then_nx, sSeq_ap, h2, then_nx, sSeq_ap, h3, then_nx, sSeq_ap, h4, then_nx, sSeq_ap, h5, then_nx, sSeq_ap, h6, then_nx]
  rfl
end Lk21
set_option maxHeartbeats 1000000
namespace Lk21
open G
theorem two_sh (x : D) (hs : x.sh = true) : shs [p0, x] = true := by rw [shs_cons, shs_cons, shs_nil, hs]; rfl
theorem pc_sh (h x : D) (hh : h.sh = true) (hs : x.sh = true) : (pc (l1 h) .non (.lst false [p0, x])).sh = true := by
  have h2 := two_sh x hs
  show (!false && shs [l1 h, .non, .lst false [p0, x]]) = true
  rw [shs_cons, shs_cons, shs_cons, shs_nil, sh_lst, h2]
  show (!false && ((!false && shs [h]) && _)) = true
  rw [shs_cons, hh]; rfl
theorem dpD_sh : ∀ (k : Nat) (x : D), x.sh = true → (dpD k x).sh = true
  | 0, x, h => h
  | k + 1, x, h => pc_sh gH (dpD k x) rfl (dpD_sh k x h)
theorem dpD_out : ∀ (k : Nat) (x : D), dpD k (pc gd .non (.lst false [p0, x])) = dpD (k + 1) x
  | 0, x => rfl
  | k + 1, x => by
    show pc gd .non (.lst false [p0, dpD k _]) = pc gd .non (.lst false [p0, dpD (k + 1) x])
    rw [dpD_out k x]
theorem mk_two (ρ : Env) (e1 e2 : E) (h x : D) (hh : h.sh = true) (hs : x.sh = true) (g1 : e1 ρ = .ok (l1 h)) (g2 : e2 ρ = .ok (.lst false [p0, x])) :
    eFrz (eMake "Piece" d_Piece___init__ [e1, eC .non, e2]) ρ = .ok (pc (l1 h) .non (.lst false [p0, x])) := by
  have h1 : shs [h] = true := by rw [shs_cons, hh]; rfl
  have h2 := two_sh x hs
  have hl1 : (l1 h).sh = true := by unfold l1; rw [sh_lst, h1]; rfl
  have hl2 : (D.lst false [p0, x]).sh = true := by rw [sh_lst, h2]; rfl
  have hk := mk3 ρ e1 (eC .non) e2 (l1 h) .non (.lst false [p0, x]) _ _ _ g1 rfl g2 hl1 rfl hl2 (cpd_lst [h] h1) rfl (cpd_lst [p0, x] h2)
  rw [eFrz_ap, hk, bind_ok]
  show Res.ok (D.ins false "Piece" PF (frzs [.lst true [h], .non, .lst true [p0, x]])) = _
  rw [frzs_cons, frzs_cons, frzs_cons, frzs_nil, frz_lst, frz_lst, frzs_of_shs _ h1, frzs_of_shs _ h2]; rfl
theorem deep_step (k j : Option D) (x : D) (hs : x.sh = true) : lb1__law_deep [k, some x, j] = .nx [k, some (pc gd .non (.lst false [p0, x])), j] := by
  have g1 : eFrz (eL [eMake "Header" d_Header___init__ [eC (.str t_b), eC (.str t_c)]]) [k, some x, j] = .ok (l1 gH) := rfl
  have hf := frz_of_sh x hs
  have g2 : eFrz (eL [eP0, eV 1]) [k, some x, j] = .ok (.lst false [p0, x]) := by
    have : ∃ q, eP0 [k, some x, j] = .ok q ∧ q.frz = p0 := ⟨_, rfl, rfl⟩
    obtain ⟨q, q1, q2⟩ := this
    generalize eP0 = e at *
    simp_arith! [q1, q2, hs, hf]
  have := mk_two [k, some x, j] _ _ gH x rfl hs g1 g2
  show sSet 1 (eFrz (eMake "Piece" d_Piece___init__ [eFrz (eL [eMake "Header" d_Header___init__ [eC (.str t_b), eC (.str t_c)]]), eC .non, eFrz (eL [eP0, eV 1])])) [k, some x, j] = _
  rw [sSet_ap, this, sE_ok]; rfl
theorem deep_loop : ∀ (m : Nat) (xs : List Nat) (k j : Option D) (x : D), xs.length = m → x.sh = true → ∃ j', forL (bN 2) lb1__law_deep (xs.map fun (i : Nat) => D.int (i : Int)) [k, some x, j] = .nx [k, some (dpD m x), j']
  | 0, xs, k, j, x, h, hs => by
    have : xs = [] := by simpa using h
    subst this; exact ⟨j, rfl⟩
  | m + 1, [], k, j, x, h, hs => by simp at h
  | m + 1, i :: xs, k, j, x, h, hs => by
    obtain ⟨j', ih⟩ := deep_loop m xs k (some (.int (i : Int))) _ (by simpa using h) (pc_sh gH x rfl hs)
    refine ⟨j', ?_⟩
    have hb : bN 2 (.int (i : Int)) [k, some x, j] = .ok [k, some x, some (.int (i : Int))] := rfl
    simp only [List.map_cons, forL, hb, nox_ok', sE_ok, deep_step k _ x hs, loop_nx]
    rw [← dpD_out m x]; exact ih
theorem deep_eq (m : Nat) (hm : m ≤ 100) (x : D) (hs : x.sh = true) : d__law_deep [.int (m : Int), x] = .ok (dpD m x) := by
  obtain ⟨j', hl⟩ := deep_loop m (List.range m) (some (.int (m : Int))) none x (by simp) hs
  have hr : iRange1 (eO 0) [some (.int (m : Int)), some x, none] = .ok ((List.range m).map fun (i : Nat) => D.int (i : Int)) := by
    have hf : fits62 (m : Int) = true := by simp [fits62]; omega
    have : rangeD 0 m = (List.range m).map fun (i : Nat) => D.int (i : Int) := by
      unfold rangeD
      exact List.map_congr_left fun i _ => by rw [Int.zero_add]
    rw [iRange1_ap]
    simp only [eO_ap, get_0, bind_ok, hf, if_true, Int.toNat_natCast, this]
  show endF (b__law_deep [some (.int (m : Int)), some x, none]) = _
  unfold b__law_deep
  rw [sSeq_ap, sFor_ap, hr, sE_ok, hl, then_nx, sRetM_ap]
  simp only [get_s, get_0, sE_ok, endF_rt]
variable (vs : List D) (hv : shs vs = true)
include hv in
theorem deep_no (x : D) (hx : x ∈ thing vs) : (∀ k, k ≤ 3 → d_is_piece 20 [dpD k x, .int 4] = .ok (.bl false)) := by
  have hs : x.sh = true := shs_memG (thing_sh vs hv) hx
  obtain ⟨t4, t3, t2, t1⟩ := thing_no vs x hx
  have p4 : d_is_piece 19 [p0, .int (4 - 1)] = .ok (.bl true) := rfl
  have p3 : d_is_piece 18 [p0, .int (3 - 1)] = .ok (.bl true) := rfl
  have p2 : d_is_piece 17 [p0, .int (2 - 1)] = .ok (.bl true) := rfl
  have hh1 : fIsI ci_Header gH = some (.bl true) := rfl
  have hh2 : fFldO "Header" "name" gH = some (.str t_b) := rfl
  have hb : t_b ≠ t_body := by decide
  have w4 : ∀ y : D, y.sh = true → d_is_piece 19 [y, .int 3] = .ok (.bl false) → d_is_piece 20 [dpD 1 y, .int 4] = .ok (.bl false) := fun y hy h => wrap_no 19 4 gH y t_b hh1 hh2 hb (by decide) hy p4 h
  have w3 : ∀ y : D, y.sh = true → d_is_piece 18 [y, .int 2] = .ok (.bl false) → d_is_piece 19 [dpD 1 y, .int 3] = .ok (.bl false) := fun y hy h => wrap_no 18 3 gH y t_b hh1 hh2 hb (by decide) hy p3 h
  have w2 : ∀ y : D, y.sh = true → d_is_piece 17 [y, .int 1] = .ok (.bl false) → d_is_piece 18 [dpD 1 y, .int 2] = .ok (.bl false) := fun y hy h => wrap_no 17 2 gH y t_b hh1 hh2 hb (by decide) hy p2 h
  intro k hk
  have : k = 0 ∨ k = 1 ∨ k = 2 ∨ k = 3 := by omega
  rcases this with rfl | rfl | rfl | rfl
  · exact t4
  · exact w4 x hs t3
  · exact w4 _ (dpD_sh 1 x hs) (w3 x hs t2)
  · exact w4 _ (dpD_sh 2 x hs) (w3 _ (dpD_sh 1 x hs) (w2 x hs t1))
def farD (Z : Tx) (x : D) : D := pc (l1 (hdrD false t_x Z)) .non (.lst false [p0, x])
include hv in
theorem far_no (Z : Tx) (x : D) (hx : x ∈ thing vs) : d_is_piece 20 [farD Z x, .int 4] = .ok (.bl false) := by
  have hs : x.sh = true := shs_memG (thing_sh vs hv) hx
  obtain ⟨t4, t3, t2, t1⟩ := thing_no vs x hx
  have p4 : d_is_piece 19 [p0, .int (4 - 1)] = .ok (.bl true) := rfl
  have hh1 : fIsI ci_Header (hdrD false t_x Z) = some (.bl true) := rfl
  have hh2 : fFldO "Header" "name" (hdrD false t_x Z) = some (.str t_x) := rfl
  exact wrap_no 19 4 _ x t_x hh1 hh2 (by decide) (by decide) hs p4 t3
theorem last_eq (ρ : Env) (hρ : ∃ a b c, ρ = a :: b :: some gd :: c) : eLast ρ = .ok (.bl true) := by
  obtain ⟨a, b, c, rfl⟩ := hρ
  have hg : ∃ q, eGp (a :: b :: some gd :: c) = .ok q ∧ q.frz = gp := ⟨_, rfl, rfl⟩
  obtain ⟨q, q1, q2⟩ := hg
  have gs : gp.sh = true := rfl
  have d1 := deep_eq 3 (by omega) gp gs
  have ds := dpD_sh 3 gp gs
  have df := frz_of_sh _ ds
  have hp : ∃ l, d_piece_rows [dpD 3 gp] = .ok l ∧ l.ow = true := by
    refine ⟨rowD true _, piece_rows_ok (.nd [⟨t_b, [t_c]⟩] [] [.nd [] [[98]] [], .nd [⟨t_b, [t_c]⟩] [] [.nd [] [[98]] [], .nd [⟨t_b, [t_c]⟩] [] [.nd [] [[98]] [], .nd [⟨t_b, [t_c]⟩] [[98]] []]]]) ?_ (by decide), ?_⟩
    · have ho : Hd.ok ⟨t_b, [t_c]⟩ := by
        refine ⟨⟨by decide, by decide⟩, ⟨by decide, by decide⟩, ?_, ?_⟩
        · intro w hw
          have : w = t_c := by simpa using hw
          subst this; decide
        · intro w hw
          have : w = t_c := by simpa using hw
          subst this; decide
      have hr : okR [98] := ⟨by decide, by intro c hc; have : c = 98 := by simpa using hc
                                           subst this; decide, by decide⟩
      have b1 : ∀ k, okT (k + 1) (.nd [] [[98]] []) := fun k => ⟨by simp, by simpa using hr, .inr rfl, by simp, by simp⟩
      have b2 : ∀ k, okT (k + 1) (.nd [⟨t_b, [t_c]⟩] [[98]] []) := fun k => ⟨by simpa using ho, by simpa using hr, .inr rfl, by simp, by simp⟩
      have b3 : ∀ k t, okT k t → okT (k + 1) (.nd [⟨t_b, [t_c]⟩] [] [.nd [] [[98]] [], t]) := fun k t h => by
        cases k with
        | zero => exact h.elim
        | succ k =>
          refine ⟨by simpa using ho, by simp, .inl rfl, by simp, fun p hp => ?_⟩
          rcases List.mem_cons.mp hp with z | z
          · subst z; exact b1 k
          · have : p = t := by simpa using z
            subst this; exact h
      exact b3 3 _ (b3 2 _ (b3 1 _ (b2 0)))
    · unfold rowD; rfl
  obtain ⟨l, l1, l2⟩ := hp
  have hw := word_yes (dpD 3 gp) l ds l1 l2
  rw [show ((3 : Nat) : Int) = 3 from rfl] at d1
  have he : fEq (.lst true []) (.lst true []) = some (.bl true) := rfl
  have gf := frz_of_sh gp gs
  unfold eLast
  generalize dpD 3 gp = Q at *
  generalize gp = G0 at *
  generalize eGp = e at *
  simp_arith! [eLast, q1, q2, gf, gs, d1, df, ds, hw]
  all_goals rfl
end Lk21
set_option maxHeartbeats 1000000
namespace Lk21
open G
theorem ixO_of (xs : List D) (i : Nat) (d : D) (h : xs[i]? = some d) : fIxO (.lst false xs) (.int (i : Int)) = some d := by
  have hi : i < xs.length := (List.getElem?_eq_some_iff.mp h).1
  have h1 : ixD xs.length (i : Int) = some i := by simp [ixD, hi]
  simp only [fIxO, h1, Option.bind_some, h]
theorem hdr_sh (n v : Tx) : (hdrD false n v).sh = true := by
  show (!false && shs [.str n, .str v]) = true
  rw [shs_cons, shs_cons, shs_nil]; rfl
variable (vs : List D) (hv : shs vs = true)
include hv in
theorem refused_eq (n : Int) (h0 : 0 ≤ n) : d__law_refused [.int n, PP vs] = .ok (.bl true) := by
  have hL := line_ge
  show endF (b__law_refused [some (.int n), some (PP vs), none, none, none, none, none, none]) = _
  rw [refused_den]
  obtain ⟨ρ, hρ, st⟩ := stages vs hv n
  rw [st]
  subst hρ
  have hT := thing_sh vs hv
  have hTl := thing_len vs
  have pick : ∀ m : Int, 0 ≤ m → ∃ (i : Nat) (x : D), m % 26 = (i : Int) ∧ (thing vs)[i]? = some x ∧ x ∈ thing vs ∧ x.sh = true := fun m hm => by
    refine ⟨(m % 26).toNat, (thing vs)[(m % 26).toNat]'(by rw [hTl]; omega), by omega, List.getElem?_eq_getElem _, List.getElem_mem _, shs_memG hT (List.getElem_mem _)⟩
  obtain ⟨i1, x1, e1, g1, m1, s1⟩ := pick n h0
  obtain ⟨i2, x2, e2, g2, m2, s2⟩ := pick (n / 78) (by omega)
  obtain ⟨i3, x3, e3, g3, m3, s3⟩ := pick (n / 2028) (by omega)
  have j1 := ix_of _ i1 x1 hT g1
  have j2 := ixO_of _ i2 x2 g2
  have j3 := ix_of _ i3 x3 hT g3
  obtain ⟨k, hk⟩ : ∃ k : Nat, 1 + n / 26 % 3 = (k : Int) := ⟨(1 + n / 26 % 3).toNat, by omega⟩
  have hk3 : k ≤ 3 := by omega
  have dk := deep_eq k (by omega) x2 s2
  have dks := dpD_sh k x2 s2
  have w1 := word_no x1 s1 (deep_no vs hv x1 m1 0 (by omega))
  have w2 := word_no _ dks (deep_no vs hv x2 m2 k hk3)
  obtain ⟨Z, hZ⟩ : ∃ Z, fMul (.str t_b) (.int (60 + n % 9)) = some (.str Z) := by
    have f1 : fits62 (60 + n % 9) = true := by simp [fits62]; omega
    have f2 : (decide (t_b.length * (60 + n % 9).toNat ≤ LINE) && fits62 (60 + n % 9)) = true := by
      rw [f1, Bool.and_true, decide_eq_true_eq]
      show 1 * _ ≤ _
      omega
    exact ⟨_, by simp only [fMul, f2, if_true]; exact rfl⟩
  have far : d_is_piece 20 [farD Z x3, .int 4] = .ok (.bl false) := far_no vs hv Z x3 m3
  generalize thing vs = T at *
  have o1 : fMod (.int n) (.int 26) = some (.int (i1 : Int)) := by rw [← e1]; rfl
  have o2 : fMod (.int (n / 78)) (.int 26) = some (.int (i2 : Int)) := by rw [← e2]; rfl
  have o3 : fMod (.int (n / 2028)) (.int 26) = some (.int (i3 : Int)) := by rw [← e3]; rfl
  have q1 : fDiv (.int n) (.int 78) = some (.int (n / 78)) := rfl
  have q2 : fDiv (.int n) (.int 2028) = some (.int (n / 2028)) := rfl
  have q3 : fDiv (.int n) (.int 26) = some (.int (n / 26)) := rfl
  have o4 : fMod (.int (n / 26)) (.int 3) = some (.int (n / 26 % 3)) := rfl
  have o5 : fAdd (.int 1) (.int (n / 26 % 3)) = some (.int (k : Int)) := by rw [← hk]; rfl
  have o6 : fMod (.int n) (.int 9) = some (.int (n % 9)) := rfl
  have o7 : fAdd (.int 60) (.int (n % 9)) = some (.int (60 + n % 9)) := rfl
  generalize n / 26 % 3 = z1 at *
  generalize n / 26 = z2 at *
  generalize n / 78 = z3 at *
  generalize n / 2028 = z4 at *
  generalize 60 + n % 9 = z5 at *
  generalize n % 9 = z6 at *
  have r4 : sSet 4 eExp (en n vs (some (.lst false T)) none none none none) = .nx (en n vs (some (.lst false T)) (some WE) none none none) := rfl
  have gl : eLong (en n vs (some (.lst false T)) (some WE) none none none) = .ok (l1 (hdrD false t_x Z)) := by
    have hi := hinit t_x Z
    have hs2 : shs [D.str t_x, D.str Z] = true := rfl
    unfold l1 en
    generalize PP vs = Q at *
    generalize WE = W at *
    have hz : (D.str Z).frz = .str Z := rfl
    simp_arith! [eLong, o6, o7, hZ, hz, eMake_ap, hs2, hi]
    rfl
  have r5 : sSet 5 eLong (en n vs (some (.lst false T)) (some WE) none none none) = .nx (en n vs (some (.lst false T)) (some WE) (some (l1 (hdrD false t_x Z))) none none) := by
    rw [sSet_ap, gl, sE_ok]; rfl
  have gf : eFar (en n vs (some (.lst false T)) (some WE) (some (l1 (hdrD false t_x Z))) none none) = .ok (farD Z x3) := by
    refine mk_two _ (eO 5) _ (hdrD false t_x Z) x3 (hdr_sh _ _) s3 rfl ?_
    have : ∃ q, eP0 (en n vs (some (.lst false T)) (some WE) (some (l1 (hdrD false t_x Z))) none none) = .ok q ∧ q.frz = p0 := ⟨_, rfl, rfl⟩
    obtain ⟨q, q4, q5⟩ := this
    have hf3 := frz_of_sh x3 s3
    unfold en at *
    generalize l1 (hdrD false t_x Z) = L at *
    generalize eP0 = e at *
    generalize PP vs = Q at *
    generalize WE = W at *
    simp_arith! [q4, q5, q2, o3, j3, hf3]
  have r6 : sSet 6 eFar (en n vs (some (.lst false T)) (some WE) (some (l1 (hdrD false t_x Z))) none none) = .nx (en n vs (some (.lst false T)) (some WE) (some (l1 (hdrD false t_x Z))) (some (farD Z x3)) none) := by
    rw [sSet_ap, gf, sE_ok]; rfl
  have fs : (farD Z x3).sh = true := pc_sh _ _ (hdr_sh _ _) s3
  have g3 : eThree (en n vs (some (.lst false T)) (some WE) (some (l1 (hdrD false t_x Z))) (some (farD Z x3)) none) = .ok (.lst false [x1, dpD k x2, farD Z x3]) := by
    have hf1 := frz_of_sh x1 s1
    have hf2 := frz_of_sh x2 s2
    have hfk := frz_of_sh _ dks
    have hff := frz_of_sh _ fs
    unfold en
    generalize farD Z x3 = F at *
    generalize dpD k x2 = Y at *
    generalize l1 (hdrD false t_x Z) = L at *
    generalize PP vs = Q at *
    generalize WE = W at *
    simp_arith! [eThree, o1, j1, o5, o4, q3, q1, o2, j2, hf2, dk, dks, fs, s2, hf1, hfk, hff, Bool.or_true]
  have w3 := word_no _ fs far
  have hW : fNe WE WE = some (.bl false) := rfl
  have step : ∀ (y : D) (x7 : Option D), y.sh = true → d__law_word_of [y] = .ok WE → lb1__law_refused (en n vs (some (.lst false T)) (some WE) (some (l1 (hdrD false t_x Z))) (some (farD Z x3)) (some y)) = .nx (en n vs (some (.lst false T)) (some WE) (some (l1 (hdrD false t_x Z))) (some (farD Z x3)) (some y)) := fun y x7 hy hw => by
    have hf := frz_of_sh y hy
    unfold en
    generalize farD Z x3 = F at *
    generalize l1 (hdrD false t_x Z) = L at *
    generalize PP vs = Q at *
    generalize WE = W at *
    simp_arith! [lb1__law_refused, hf, hw, hy, hW]
  have hb : ∀ (y : D) (x7 : Option D), y.sh = true → bN 7 y (en n vs (some (.lst false T)) (some WE) (some (l1 (hdrD false t_x Z))) (some (farD Z x3)) x7) = .ok (en n vs (some (.lst false T)) (some WE) (some (l1 (hdrD false t_x Z))) (some (farD Z x3)) (some y)) := fun y x7 hy => by
    unfold en
    simp only [bN_ap, hy, if_true, put_s, put_0]
  have hlast := last_eq (en n vs (some (.lst false T)) (some WE) (some (l1 (hdrD false t_x Z))) (some (farD Z x3)) (some (farD Z x3))) ⟨_, _, _, rfl⟩
  have it : iLstS eThree (en n vs (some (.lst false T)) (some WE) (some (l1 (hdrD false t_x Z))) (some (farD Z x3)) none) = .ok [x1, dpD k x2, farD Z x3] := by
    simp only [iLstS_ap, g3, bind_ok]
  rw [sSeq_ap, r4, then_nx, sSeq_ap, r5, then_nx, sSeq_ap, r6, then_nx, sSeq_ap, sFor_ap, it, sE_ok]
  simp only [forL, hb _ _ s1, hb _ _ dks, hb _ _ fs, nox_ok', sE_ok, step _ none s1 w1, step _ none dks w2, step _ none fs w3, loop_nx, then_nx]
  rw [sRet_ap, hlast, sE_ok, endF_rt]
end Lk21
set_option maxHeartbeats 1000000
namespace Lk21
open G
theorem comp_sum (x0 x1 x2 x3 x4 x5 x7 : Option D) : ∀ (R : List Tx) (k : Nat), (∀ r ∈ R, r.length ≤ 1000) → ∃ zs : List Int, compL (cT [6, 8]) eYes le1_law [x0, x1, x2, x3, x4, x5, none, x7, none] (enumFrom (k : Int) (R.map .str)) = .ok (zs.map .int) ∧ zs.length = R.length
  | [], k, _ => ⟨[], rfl, rfl⟩
  | r :: R, k, h => by
    have hL := line_ge
    obtain ⟨zs, ih, il⟩ := comp_sum x0 x1 x2 x3 x4 x5 x7 R (k + 1) fun r hr => h r (by simp [hr])
    have hr := h r (by simp)
    refine ⟨(r.length : Int) * ((k : Int) + 1) :: zs, ?_, by simp [il]⟩
    have h1 : fLen (.str r) = some (.int (r.length : Int)) := by
      have : r.length ≤ LINE := by omega
      simp only [fLen, this, if_true]
    have h2 : fAdd (.int (k : Int)) (.int 1) = some (.int ((k : Int) + 1)) := rfl
    have h3 : fMul (.int (r.length : Int)) (.int ((k : Int) + 1)) = some (.int ((r.length : Int) * ((k : Int) + 1))) := by
      have : fits64 (r.length : Int) = true := fits_small (by omega) (by omega)
      simp only [fMul, this, Bool.true_or, if_true]
    have hb : cT [6, 8] (.tup true [.int (k : Int), .str r]) [x0, x1, x2, x3, x4, x5, none, x7, none] = .ok [x0, x1, x2, x3, x4, x5, some (.int (k : Int)), x7, some (.str r)] := rfl
    have hy : eYes [x0, x1, x2, x3, x4, x5, some (.int (k : Int)), x7, some (.str r)] = .ok (.bl true) := rfl
    have he : le1_law [x0, x1, x2, x3, x4, x5, some (.int (k : Int)), x7, some (.str r)] = .ok (.int ((r.length : Int) * ((k : Int) + 1))) := by
      generalize (r.length : Int) * ((k : Int) + 1) = z at *
      generalize (k : Int) + 1 = y at *
      simp_arith! [le1_law, h1, h2, h3]
    rw [show ((k + 1 : Nat) : Int) = (k : Int) + 1 by omega] at ih
    simp only [List.map_cons, enumFrom, compL, hb, nox_ok', bind_ok, hy, he, ih]
theorem ne_strs (l : List Tx) : fNe (.lst true (l.map .str)) (.lst true (l.map .str)) = some (.bl false) := by
  rw [fNe_pl (by simp) (by simp) (by simp) (by simp)]
  rw [eqv_refl _ (by simp)]; rfl
theorem eq_strs (l : List Tx) : fEq (.lst true (l.map .str)) (.lst true (l.map .str)) = some (.bl true) := by
  rw [fEq_pl (by simp) (by simp) (by simp) (by simp)]
  rw [eqv_refl _ (by simp)]
theorem pD_PP (k : Nat) : ∀ t : Tr, ∃ vs, pD (k + 1) t = PP vs
  | .nd hs rs ps => ⟨_, rfl⟩
theorem law_true (ns : List Int) (_ : ns.length ≤ 63) : d_law [.scr ns] = .ok (.bl true) := by
  have hL := line_ge
  obtain ⟨t, hd, ok, hz⟩ := drawn_ok ns
  have hz : szT 4 t ≤ 100 := by omega
  have of := oD_frz 4 t
  have ts := td_sh 4 t
  have tf := frz_of_sh _ ts
  have hm := made_ok 4 20 t ok hz (by omega)
  have mf := mD_frz 4 t
  have pf := pD_frz 4 t
  have psh := pD_sh 4 t
  have hu := ldue_eq 4 20 t ok hz (by omega)
  have pr := piece_rows_ok t ok hz
  have hlen := due_len 4 t ok hz
  obtain ⟨zs, hc, hzl⟩ := comp_sum (some (.scr ns)) (some (tD 4 t)) (some (mD 4 t)) (some (rowD true (due 4 t))) (some (.int 1)) none (some (.lst true [])) (due 4 t) 0 (fun r hr => Nat.le_trans (hlen.2 r hr) (by omega))
  have rf : ∀ n : Int, 0 ≤ n → d__law_refused [.int n, pD 4 t] = .ok (.bl true) := fun n hn => by
    obtain ⟨vs, hvs⟩ := pD_PP 3 t
    have hsh := psh
    rw [hvs] at hsh ⊢
    exact refused_eq _ (by
      have : (!false && shs vs) = true := hsh
      simpa using this) n hn
  have ow : (rowD true (due 4 t)).ow = true := by unfold rowD; simp
  have ne : fNe (rowD true (due 4 t)) (rowD true (due 4 t)) = some (.bl false) := ne_strs _
  have eq : fEq (rowD true (due 4 t)) (rowD true (due 4 t)) = some (.bl true) := eq_strs _
  have il : fIsT .list (rowD true (due 4 t)) = some (.bl true) := rfl
  have cl : ∀ x0 x1 x2 x3 x4 x5 x6 x8 : Option D, sDropM (mClear 7 (pHere 7)) [x0, x1, x2, x3, x4, x5, x6, some (rowD true (due 4 t)), x8] = .nx [x0, x1, x2, x3, x4, x5, x6, some (.lst true []), x8] := fun _ _ _ _ _ _ _ _ => rfl
  have hfs : fSum (.lst true (zs.map .int)) = some (.int zs.sum) := by simp only [fSum, intsD_map, Option.map_some]
  have hzl2 : (zs.map D.int).length ≤ LINE := by rw [List.length_map, hzl]; omega
  have hen : iEnum (iLst (eO 3)) [some (.scr ns), some (tD 4 t), some (mD 4 t), some (rowD true (due 4 t)), some (.int 1), none, none, some (.lst true []), none] = .ok (enumFrom 0 ((due 4 t).map .str)) := rfl
  have hc' : compL (cT [6, 8]) eYes le1_law [some (.scr ns), some (tD 4 t), some (mD 4 t), some (rowD true (due 4 t)), some (.int 1), none, none, some (.lst true []), none] (enumFrom 0 ((due 4 t).map .str)) = .ok (zs.map .int) := hc
  have msh : ∀ k : Int, 0 ≤ k → k < 3 → d__law_mixed [.int zs.sum, .int k] = .ok (.int (mxd zs.sum k)) ∧ d__law_refused [.int (mxd zs.sum k), pD 4 t] = .ok (.bl true) := fun k h0 h1 => ⟨mixed_eq _ k h0 (by omega), rf _ (mxd_ok _ _).1⟩
  generalize zs.sum = s at *
  generalize (due 4 t).map D.str = DS at *
  generalize rowD true (due 4 t) = R at *
  generalize zs.map D.int = ZS at *
  generalize mD 4 t = M at *
  generalize pD 4 t = P at *
  generalize oD 4 t = O at *
  generalize tD 4 t = T at *
  show endF (b_law [some (.scr ns), none, none, none, none, none, none, none, none]) = _
  have s1 : sSet 1 (eFrz (eCall d__law_drawn [eO 0])) [some (.scr ns), none, none, none, none, none, none, none, none] = .nx [some (.scr ns), some T, none, none, none, none, none, none, none] := by
    have f0 : (D.scr ns).frz = .scr ns := rfl
    have f1 : (D.scr ns).sh = true := rfl
    simp_arith! [f0, hd, f1, Bool.or_true, of]
  have s2 : sSet 2 (eCall (d__law_made 20) [eO 1]) [some (.scr ns), some T, none, none, none, none, none, none, none] = .nx [some (.scr ns), some T, some M, none, none, none, none, none, none] := by
    simp_arith! [tf, hm, ts, Bool.or_true]
  have s3 : sSet 3 (eCall (d__law_due 20) [eO 1]) [some (.scr ns), some T, some M, none, none, none, none, none, none] = .nx [some (.scr ns), some T, some M, some R, none, none, none, none, none] := by
    simp_arith! [tf, hu, ts, Bool.or_true]
  have t1 : ∀ x4 x7 : Option D, lb1_law [some (.scr ns), some T, some M, some R, x4, none, none, x7, none] = .nx [some (.scr ns), some T, some M, some R, x4, none, none, some (.lst true []), none] := fun x4 x7 => by
    have a1 : sSet 7 (eCall d_piece_rows [eO 2]) [some (.scr ns), some T, some M, some R, x4, none, none, x7, none] = .nx [some (.scr ns), some T, some M, some R, x4, none, none, some R, none] := by
      simp_arith! [mf, pr, ow, Bool.true_or]
    have a2 : sIf (eOr (eNot (e1 (fIsT .list) (eO 7))) (e2 fNe (eO 7) (eO 3))) (sRet (eC (.bl false))) sPass [some (.scr ns), some T, some M, some R, x4, none, none, some R, none] = .nx [some (.scr ns), some T, some M, some R, x4, none, none, some R, none] := by
      simp_arith! [il, ne]
    unfold lb1_law
    rw [sSeq_ap, a1, then_nx, sSeq_ap, a2, then_nx, cl]
  have s4 : sFor (iRange1 (eC (.int 2))) (bN 4) lb1_law [some (.scr ns), some T, some M, some R, none, none, none, none, none] = .nx [some (.scr ns), some T, some M, some R, some (.int 1), none, none, some (.lst true []), none] := by
    have hr : iRange1 (eC (.int 2)) [some (.scr ns), some T, some M, some R, none, none, none, none, none] = .ok [.int 0, .int 1] := rfl
    have b4 : ∀ (y : Int) (x4 x7 : Option D), bN 4 (.int y) [some (.scr ns), some T, some M, some R, x4, none, none, x7, none] = .ok [some (.scr ns), some T, some M, some R, some (.int y), none, none, x7, none] := fun _ _ _ => rfl
    rw [sFor_ap, hr, sE_ok]
    simp only [forL, b4, nox_ok', sE_ok, t1, loop_nx]
  have s5 : sSet 5 (e1 fSum (eComp [6, 8] (iEnum (iLst (eO 3))) (cT [6, 8]) eYes le1_law)) [some (.scr ns), some T, some M, some R, some (.int 1), none, none, some (.lst true []), none] = .nx [some (.scr ns), some T, some M, some R, some (.int 1), some (.int s), none, some (.lst true []), none] := by
    simp only [sSet_ap, e1_ap, eComp_ap, hen, bind_ok, clr_cons, clr_nil, List.set_cons_succ, List.set_cons_zero, hc', hzl2, if_true, hfs, of_some, sE_ok, put_s, put_0]
  have t2 : ∀ (k : Int) (x6 : Option D), 0 ≤ k → k < 3 → lb2_law [some (.scr ns), some T, some M, some R, some (.int 1), some (.int s), some (.int k), some (.lst true []), none] = .nx [some (.scr ns), some T, some M, some R, some (.int 1), some (.int s), some (.int k), some (.lst true []), none] := fun k _ h0 h1 => by
    obtain ⟨m1, m2⟩ := msh k h0 h1
    generalize mxd s k = z at *
    simp_arith! [lb2_law, m1, mf, m2]
  have s6 : sFor (iRange1 (eC (.int 3))) (bN 6) lb2_law [some (.scr ns), some T, some M, some R, some (.int 1), some (.int s), none, some (.lst true []), none] = .nx [some (.scr ns), some T, some M, some R, some (.int 1), some (.int s), some (.int 2), some (.lst true []), none] := by
    have hr : iRange1 (eC (.int 3)) [some (.scr ns), some T, some M, some R, some (.int 1), some (.int s), none, some (.lst true []), none] = .ok [.int 0, .int 1, .int 2] := rfl
    have b6 : ∀ (y : Int) (x6 : Option D), bN 6 (.int y) [some (.scr ns), some T, some M, some R, some (.int 1), some (.int s), x6, some (.lst true []), none] = .ok [some (.scr ns), some T, some M, some R, some (.int 1), some (.int s), some (.int y), some (.lst true []), none] := fun _ _ => rfl
    rw [sFor_ap, hr, sE_ok]
    simp only [forL, b6, nox_ok', sE_ok, t2 0 none (by omega) (by omega), t2 1 none (by omega) (by omega), t2 2 none (by omega) (by omega), loop_nx]
  have s7 : sRet (e2 fEq (eCall d_piece_rows [eO 2]) (eO 3)) [some (.scr ns), some T, some M, some R, some (.int 1), some (.int s), some (.int 2), some (.lst true []), none] = .rt (.bl true) [some (.scr ns), some T, some M, some R, some (.int 1), some (.int s), some (.int 2), some (.lst true []), none] := by
    simp_arith! [mf, pr, ow, Bool.true_or, eq]
  unfold b_law
  rw [sSeq_ap, s1, then_nx, sSeq_ap, s2, then_nx, sSeq_ap, s3, then_nx, sSeq_ap, s4, then_nx, sSeq_ap, s5, then_nx, sSeq_ap, s6, then_nx, s7, endF_rt]
end Lk21
set_option maxHeartbeats 4000000
namespace Lk21
open PySem PySem.Spec PyProof.Rows L2 G
noncomputable def mkFx {K : PySem.W.Frag} {mg : Str → Option Value} {h : Heap} (X : K.In h) (G : h.Ns mainGlobals mg)
    {f0 : Addr} {od0 an0 : Option Addr} {sl0 : Array (Option Value)} {oc0 kV0 dc0 pm0 cd0 ct0 : Value}
    (a0 : PySem.W.nsIn K mainGlobals "_law_mixed" = some (some (.ref f0))) (l0 : K.lookup f0 = some ⟨oc0, od0, .func (PySem.W.fnOf "_law_mixed" "_law_mixed" (defArgs s__law_mixed) (defBody s__law_mixed) (defScope s__law_mixed) .none kV0 dc0 pm0 an0 cd0 ct0), sl0⟩) (c0 : PySem.W.codeIn K cd0 "_law_mixed" = true) (k0 : PySem.W.keepIn K (.ref f0) = true)
    {f1 : Addr} {od1 an1 : Option Addr} {sl1 : Array (Option Value)} {oc1 kV1 dc1 pm1 cd1 ct1 : Value}
    (a1 : PySem.W.nsIn K mainGlobals "_law_open" = some (some (.ref f1))) (l1 : K.lookup f1 = some ⟨oc1, od1, .func (PySem.W.fnOf "_law_open" "_law_open" (defArgs s__law_open) (defBody s__law_open) (defScope s__law_open) .none kV1 dc1 pm1 an1 cd1 ct1), sl1⟩) (c1 : PySem.W.codeIn K cd1 "_law_open" = true) (k1 : PySem.W.keepIn K (.ref f1) = true)
    {f2 : Addr} {od2 an2 : Option Addr} {sl2 : Array (Option Value)} {oc2 kV2 dc2 pm2 cd2 ct2 : Value}
    (a2 : PySem.W.nsIn K mainGlobals "_law_row" = some (some (.ref f2))) (l2 : K.lookup f2 = some ⟨oc2, od2, .func (PySem.W.fnOf "_law_row" "_law_row" (defArgs s__law_row) (defBody s__law_row) (defScope s__law_row) .none kV2 dc2 pm2 an2 cd2 ct2), sl2⟩) (c2 : PySem.W.codeIn K cd2 "_law_row" = true) (k2 : PySem.W.keepIn K (.ref f2) = true)
    {f3 : Addr} {od3 an3 : Option Addr} {sl3 : Array (Option Value)} {oc3 kV3 dc3 pm3 cd3 ct3 : Value}
    (a3 : PySem.W.nsIn K mainGlobals "_law_drawn" = some (some (.ref f3))) (l3 : K.lookup f3 = some ⟨oc3, od3, .func (PySem.W.fnOf "_law_drawn" "_law_drawn" (defArgs s__law_drawn) (defBody s__law_drawn) (defScope s__law_drawn) .none kV3 dc3 pm3 an3 cd3 ct3), sl3⟩) (c3 : PySem.W.codeIn K cd3 "_law_drawn" = true) (k3 : PySem.W.keepIn K (.ref f3) = true)
    {f4 : Addr} {od4 an4 : Option Addr} {sl4 : Array (Option Value)} {oc4 kV4 dc4 pm4 cd4 ct4 : Value}
    (a4 : PySem.W.nsIn K mainGlobals "_law_border" = some (some (.ref f4))) (l4 : K.lookup f4 = some ⟨oc4, od4, .func (PySem.W.fnOf "_law_border" "_law_border" (defArgs s__law_border) (defBody s__law_border) (defScope s__law_border) .none kV4 dc4 pm4 an4 cd4 ct4), sl4⟩) (c4 : PySem.W.codeIn K cd4 "_law_border" = true) (k4 : PySem.W.keepIn K (.ref f4) = true)
    {f5 : Addr} {od5 an5 : Option Addr} {sl5 : Array (Option Value)} {oc5 kV5 dc5 pm5 cd5 ct5 : Value}
    (a5 : PySem.W.nsIn K mainGlobals "_law_folded" = some (some (.ref f5))) (l5 : K.lookup f5 = some ⟨oc5, od5, .func (PySem.W.fnOf "_law_folded" "_law_folded" (defArgs s__law_folded) (defBody s__law_folded) (defScope s__law_folded) .none kV5 dc5 pm5 an5 cd5 ct5), sl5⟩) (c5 : PySem.W.codeIn K cd5 "_law_folded" = true) (k5 : PySem.W.keepIn K (.ref f5) = true)
    {f6 : Addr} {od6 an6 : Option Addr} {sl6 : Array (Option Value)} {oc6 kV6 dc6 pm6 cd6 ct6 : Value}
    (a6 : PySem.W.nsIn K mainGlobals "_law_due" = some (some (.ref f6))) (l6 : K.lookup f6 = some ⟨oc6, od6, .func (PySem.W.fnOf "_law_due" "_law_due" (defArgs s__law_due) (defBody s__law_due) (defScope s__law_due) .none kV6 dc6 pm6 an6 cd6 ct6), sl6⟩) (c6 : PySem.W.codeIn K cd6 "_law_due" = true) (k6 : PySem.W.keepIn K (.ref f6) = true)
    {f8 : Addr} {od8 an8 : Option Addr} {sl8 : Array (Option Value)} {oc8 kV8 dc8 pm8 cd8 ct8 : Value}
    (a8 : PySem.W.nsIn K mainGlobals "copied" = some (some (.ref f8))) (l8 : K.lookup f8 = some ⟨oc8, od8, .func (PySem.W.fnOf "copied" "copied" (defArgs s_copied) (defBody s_copied) (defScope s_copied) .none kV8 dc8 pm8 an8 cd8 ct8), sl8⟩) (c8 : PySem.W.codeIn K cd8 "copied" = true) (k8 : PySem.W.keepIn K (.ref f8) = true)
    {f10 : Addr} {od10 an10 : Option Addr} {sl10 : Array (Option Value)} {oc10 kV10 dc10 pm10 cd10 ct10 : Value}
    (a10 : PySem.W.nsIn K mainGlobals "_law_made" = some (some (.ref f10))) (l10 : K.lookup f10 = some ⟨oc10, od10, .func (PySem.W.fnOf "_law_made" "_law_made" (defArgs s__law_made) (defBody s__law_made) (defScope s__law_made) .none kV10 dc10 pm10 an10 cd10 ct10), sl10⟩) (c10 : PySem.W.codeIn K cd10 "_law_made" = true) (k10 : PySem.W.keepIn K (.ref f10) = true)
    {f11 : Addr} {od11 an11 : Option Addr} {sl11 : Array (Option Value)} {oc11 kV11 dc11 pm11 cd11 ct11 : Value}
    (a11 : PySem.W.nsIn K mainGlobals "_law_deep" = some (some (.ref f11))) (l11 : K.lookup f11 = some ⟨oc11, od11, .func (PySem.W.fnOf "_law_deep" "_law_deep" (defArgs s__law_deep) (defBody s__law_deep) (defScope s__law_deep) .none kV11 dc11 pm11 an11 cd11 ct11), sl11⟩) (c11 : PySem.W.codeIn K cd11 "_law_deep" = true) (k11 : PySem.W.keepIn K (.ref f11) = true)
    {f12 : Addr} {od12 an12 : Option Addr} {sl12 : Array (Option Value)} {oc12 kV12 dc12 pm12 cd12 ct12 : Value}
    (a12 : PySem.W.nsIn K mainGlobals "is_whole" = some (some (.ref f12))) (l12 : K.lookup f12 = some ⟨oc12, od12, .func (PySem.W.fnOf "is_whole" "is_whole" (defArgs s_is_whole) (defBody s_is_whole) (defScope s_is_whole) .none kV12 dc12 pm12 an12 cd12 ct12), sl12⟩) (c12 : PySem.W.codeIn K cd12 "is_whole" = true) (k12 : PySem.W.keepIn K (.ref f12) = true)
    {f13 : Addr} {od13 an13 : Option Addr} {sl13 : Array (Option Value)} {oc13 kV13 dc13 pm13 cd13 ct13 : Value}
    (a13 : PySem.W.nsIn K mainGlobals "is_byte" = some (some (.ref f13))) (l13 : K.lookup f13 = some ⟨oc13, od13, .func (PySem.W.fnOf "is_byte" "is_byte" (defArgs s_is_byte) (defBody s_is_byte) (defScope s_is_byte) .none kV13 dc13 pm13 an13 cd13 ct13), sl13⟩) (c13 : PySem.W.codeIn K cd13 "is_byte" = true) (k13 : PySem.W.keepIn K (.ref f13) = true)
    {f14 : Addr} {od14 an14 : Option Addr} {sl14 : Array (Option Value)} {oc14 kV14 dc14 pm14 cd14 ct14 : Value}
    (a14 : PySem.W.nsIn K mainGlobals "are_bytes" = some (some (.ref f14))) (l14 : K.lookup f14 = some ⟨oc14, od14, .func (PySem.W.fnOf "are_bytes" "are_bytes" (defArgs s_are_bytes) (defBody s_are_bytes) (defScope s_are_bytes) .none kV14 dc14 pm14 an14 cd14 ct14), sl14⟩) (c14 : PySem.W.codeIn K cd14 "are_bytes" = true) (k14 : PySem.W.keepIn K (.ref f14) = true)
    {f15 : Addr} {od15 an15 : Option Addr} {sl15 : Array (Option Value)} {oc15 kV15 dc15 pm15 cd15 ct15 : Value}
    (a15 : PySem.W.nsIn K mainGlobals "is_piece" = some (some (.ref f15))) (l15 : K.lookup f15 = some ⟨oc15, od15, .func (PySem.W.fnOf "is_piece" "is_piece" (defArgs s_is_piece) (defBody s_is_piece) (defScope s_is_piece) .none kV15 dc15 pm15 an15 cd15 ct15), sl15⟩) (c15 : PySem.W.codeIn K cd15 "is_piece" = true) (k15 : PySem.W.keepIn K (.ref f15) = true)
    {f16 : Addr} {od16 an16 : Option Addr} {sl16 : Array (Option Value)} {oc16 kV16 dc16 pm16 cd16 ct16 : Value}
    (a16 : PySem.W.nsIn K mainGlobals "need_piece" = some (some (.ref f16))) (l16 : K.lookup f16 = some ⟨oc16, od16, .func (PySem.W.fnOf "need_piece" "need_piece" (defArgs s_need_piece) (defBody s_need_piece) (defScope s_need_piece) .none kV16 dc16 pm16 an16 cd16 ct16), sl16⟩) (c16 : PySem.W.codeIn K cd16 "need_piece" = true) (k16 : PySem.W.keepIn K (.ref f16) = true)
    {f18 : Addr} {od18 an18 : Option Addr} {sl18 : Array (Option Value)} {oc18 kV18 dc18 pm18 cd18 ct18 : Value}
    (a18 : PySem.W.nsIn K mainGlobals "border_of" = some (some (.ref f18))) (l18 : K.lookup f18 = some ⟨oc18, od18, .func (PySem.W.fnOf "border_of" "border_of" (defArgs s_border_of) (defBody s_border_of) (defScope s_border_of) .none kV18 dc18 pm18 an18 cd18 ct18), sl18⟩) (c18 : PySem.W.codeIn K cd18 "border_of" = true) (k18 : PySem.W.keepIn K (.ref f18) = true)
    {f19 : Addr} {od19 an19 : Option Addr} {sl19 : Array (Option Value)} {oc19 kV19 dc19 pm19 cd19 ct19 : Value}
    (a19 : PySem.W.nsIn K mainGlobals "sign_by" = some (some (.ref f19))) (l19 : K.lookup f19 = some ⟨oc19, od19, .func (PySem.W.fnOf "sign_by" "sign_by" (defArgs s_sign_by) (defBody s_sign_by) (defScope s_sign_by) .none kV19 dc19 pm19 an19 cd19 ct19), sl19⟩) (c19 : PySem.W.codeIn K cd19 "sign_by" = true) (k19 : PySem.W.keepIn K (.ref f19) = true)
    {f20 : Addr} {od20 an20 : Option Addr} {sl20 : Array (Option Value)} {oc20 kV20 dc20 pm20 cd20 ct20 : Value}
    (a20 : PySem.W.nsIn K mainGlobals "plain_rows" = some (some (.ref f20))) (l20 : K.lookup f20 = some ⟨oc20, od20, .func (PySem.W.fnOf "plain_rows" "plain_rows" (defArgs s_plain_rows) (defBody s_plain_rows) (defScope s_plain_rows) .none kV20 dc20 pm20 an20 cd20 ct20), sl20⟩) (c20 : PySem.W.codeIn K cd20 "plain_rows" = true) (k20 : PySem.W.keepIn K (.ref f20) = true)
    {f21 : Addr} {od21 an21 : Option Addr} {sl21 : Array (Option Value)} {oc21 kV21 dc21 pm21 cd21 ct21 : Value}
    (a21 : PySem.W.nsIn K mainGlobals "signs_in" = some (some (.ref f21))) (l21 : K.lookup f21 = some ⟨oc21, od21, .func (PySem.W.fnOf "signs_in" "signs_in" (defArgs s_signs_in) (defBody s_signs_in) (defScope s_signs_in) .none kV21 dc21 pm21 an21 cd21 ct21), sl21⟩) (c21 : PySem.W.codeIn K cd21 "signs_in" = true) (k21 : PySem.W.keepIn K (.ref f21) = true)
    {f22 : Addr} {od22 an22 : Option Addr} {sl22 : Array (Option Value)} {oc22 kV22 dc22 pm22 cd22 ct22 : Value}
    (a22 : PySem.W.nsIn K mainGlobals "cut_rows" = some (some (.ref f22))) (l22 : K.lookup f22 = some ⟨oc22, od22, .func (PySem.W.fnOf "cut_rows" "cut_rows" (defArgs s_cut_rows) (defBody s_cut_rows) (defScope s_cut_rows) .none kV22 dc22 pm22 an22 cd22 ct22), sl22⟩) (c22 : PySem.W.codeIn K cd22 "cut_rows" = true) (k22 : PySem.W.keepIn K (.ref f22) = true)
    {f23 : Addr} {od23 an23 : Option Addr} {sl23 : Array (Option Value)} {oc23 kV23 dc23 pm23 cd23 ct23 : Value}
    (a23 : PySem.W.nsIn K mainGlobals "need_bytes" = some (some (.ref f23))) (l23 : K.lookup f23 = some ⟨oc23, od23, .func (PySem.W.fnOf "need_bytes" "need_bytes" (defArgs s_need_bytes) (defBody s_need_bytes) (defScope s_need_bytes) .none kV23 dc23 pm23 an23 cd23 ct23), sl23⟩) (c23 : PySem.W.codeIn K cd23 "need_bytes" = true) (k23 : PySem.W.keepIn K (.ref f23) = true)
    {f24 : Addr} {od24 an24 : Option Addr} {sl24 : Array (Option Value)} {oc24 kV24 dc24 pm24 cd24 ct24 : Value}
    (a24 : PySem.W.nsIn K mainGlobals "parted" = some (some (.ref f24))) (l24 : K.lookup f24 = some ⟨oc24, od24, .func (PySem.W.fnOf "parted" "parted" (defArgs s_parted) (defBody s_parted) (defScope s_parted) .none kV24 dc24 pm24 an24 cd24 ct24), sl24⟩) (c24 : PySem.W.codeIn K cd24 "parted" = true) (k24 : PySem.W.keepIn K (.ref f24) = true)
    {f25 : Addr} {od25 an25 : Option Addr} {sl25 : Array (Option Value)} {oc25 kV25 dc25 pm25 cd25 ct25 : Value}
    (a25 : PySem.W.nsIn K mainGlobals "unit_of" = some (some (.ref f25))) (l25 : K.lookup f25 = some ⟨oc25, od25, .func (PySem.W.fnOf "unit_of" "unit_of" (defArgs s_unit_of) (defBody s_unit_of) (defScope s_unit_of) .none kV25 dc25 pm25 an25 cd25 ct25), sl25⟩) (c25 : PySem.W.codeIn K cd25 "unit_of" = true) (k25 : PySem.W.keepIn K (.ref f25) = true)
    {f26 : Addr} {od26 an26 : Option Addr} {sl26 : Array (Option Value)} {oc26 kV26 dc26 pm26 cd26 ct26 : Value}
    (a26 : PySem.W.nsIn K mainGlobals "sixteens_of" = some (some (.ref f26))) (l26 : K.lookup f26 = some ⟨oc26, od26, .func (PySem.W.fnOf "sixteens_of" "sixteens_of" (defArgs s_sixteens_of) (defBody s_sixteens_of) (defScope s_sixteens_of) .none kV26 dc26 pm26 an26 cd26 ct26), sl26⟩) (c26 : PySem.W.codeIn K cd26 "sixteens_of" = true) (k26 : PySem.W.keepIn K (.ref f26) = true)
    {f27 : Addr} {od27 an27 : Option Addr} {sl27 : Array (Option Value)} {oc27 kV27 dc27 pm27 cd27 ct27 : Value}
    (a27 : PySem.W.nsIn K mainGlobals "four_of" = some (some (.ref f27))) (l27 : K.lookup f27 = some ⟨oc27, od27, .func (PySem.W.fnOf "four_of" "four_of" (defArgs s_four_of) (defBody s_four_of) (defScope s_four_of) .none kV27 dc27 pm27 an27 cd27 ct27), sl27⟩) (c27 : PySem.W.codeIn K cd27 "four_of" = true) (k27 : PySem.W.keepIn K (.ref f27) = true)
    {f28 : Addr} {od28 an28 : Option Addr} {sl28 : Array (Option Value)} {oc28 kV28 dc28 pm28 cd28 ct28 : Value}
    (a28 : PySem.W.nsIn K mainGlobals "sixty_of" = some (some (.ref f28))) (l28 : K.lookup f28 = some ⟨oc28, od28, .func (PySem.W.fnOf "sixty_of" "sixty_of" (defArgs s_sixty_of) (defBody s_sixty_of) (defScope s_sixty_of) .none kV28 dc28 pm28 an28 cd28 ct28), sl28⟩) (c28 : PySem.W.codeIn K cd28 "sixty_of" = true) (k28 : PySem.W.keepIn K (.ref f28) = true)
    {f29 : Addr} {od29 an29 : Option Addr} {sl29 : Array (Option Value)} {oc29 kV29 dc29 pm29 cd29 ct29 : Value}
    (a29 : PySem.W.nsIn K mainGlobals "bytes_written" = some (some (.ref f29))) (l29 : K.lookup f29 = some ⟨oc29, od29, .func (PySem.W.fnOf "bytes_written" "bytes_written" (defArgs s_bytes_written) (defBody s_bytes_written) (defScope s_bytes_written) .none kV29 dc29 pm29 an29 cd29 ct29), sl29⟩) (c29 : PySem.W.codeIn K cd29 "bytes_written" = true) (k29 : PySem.W.keepIn K (.ref f29) = true)
    {f30 : Addr} {od30 an30 : Option Addr} {sl30 : Array (Option Value)} {oc30 kV30 dc30 pm30 cd30 ct30 : Value}
    (a30 : PySem.W.nsIn K mainGlobals "are_among" = some (some (.ref f30))) (l30 : K.lookup f30 = some ⟨oc30, od30, .func (PySem.W.fnOf "are_among" "are_among" (defArgs s_are_among) (defBody s_are_among) (defScope s_are_among) .none kV30 dc30 pm30 an30 cd30 ct30), sl30⟩) (c30 : PySem.W.codeIn K cd30 "are_among" = true) (k30 : PySem.W.keepIn K (.ref f30) = true)
    {f31 : Addr} {od31 an31 : Option Addr} {sl31 : Array (Option Value)} {oc31 kV31 dc31 pm31 cd31 ct31 : Value}
    (a31 : PySem.W.nsIn K mainGlobals "is_header_name" = some (some (.ref f31))) (l31 : K.lookup f31 = some ⟨oc31, od31, .func (PySem.W.fnOf "is_header_name" "is_header_name" (defArgs s_is_header_name) (defBody s_is_header_name) (defScope s_is_header_name) .none kV31 dc31 pm31 an31 cd31 ct31), sl31⟩) (c31 : PySem.W.codeIn K cd31 "is_header_name" = true) (k31 : PySem.W.keepIn K (.ref f31) = true)
    {f32 : Addr} {od32 an32 : Option Addr} {sl32 : Array (Option Value)} {oc32 kV32 dc32 pm32 cd32 ct32 : Value}
    (a32 : PySem.W.nsIn K mainGlobals "is_value" = some (some (.ref f32))) (l32 : K.lookup f32 = some ⟨oc32, od32, .func (PySem.W.fnOf "is_value" "is_value" (defArgs s_is_value) (defBody s_is_value) (defScope s_is_value) .none kV32 dc32 pm32 an32 cd32 ct32), sl32⟩) (c32 : PySem.W.codeIn K cd32 "is_value" = true) (k32 : PySem.W.keepIn K (.ref f32) = true)
    {f33 : Addr} {od33 an33 : Option Addr} {sl33 : Array (Option Value)} {oc33 kV33 dc33 pm33 cd33 ct33 : Value}
    (a33 : PySem.W.nsIn K mainGlobals "words_in" = some (some (.ref f33))) (l33 : K.lookup f33 = some ⟨oc33, od33, .func (PySem.W.fnOf "words_in" "words_in" (defArgs s_words_in) (defBody s_words_in) (defScope s_words_in) .none kV33 dc33 pm33 an33 cd33 ct33), sl33⟩) (c33 : PySem.W.codeIn K cd33 "words_in" = true) (k33 : PySem.W.keepIn K (.ref f33) = true)
    {f34 : Addr} {od34 an34 : Option Addr} {sl34 : Array (Option Value)} {oc34 kV34 dc34 pm34 cd34 ct34 : Value}
    (a34 : PySem.W.nsIn K mainGlobals "folded" = some (some (.ref f34))) (l34 : K.lookup f34 = some ⟨oc34, od34, .func (PySem.W.fnOf "folded" "folded" (defArgs s_folded) (defBody s_folded) (defScope s_folded) .none kV34 dc34 pm34 an34 cd34 ct34), sl34⟩) (c34 : PySem.W.codeIn K cd34 "folded" = true) (k34 : PySem.W.keepIn K (.ref f34) = true)
    {f35 : Addr} {od35 an35 : Option Addr} {sl35 : Array (Option Value)} {oc35 kV35 dc35 pm35 cd35 ct35 : Value}
    (a35 : PySem.W.nsIn K mainGlobals "rows_written" = some (some (.ref f35))) (l35 : K.lookup f35 = some ⟨oc35, od35, .func (PySem.W.fnOf "rows_written" "rows_written" (defArgs s_rows_written) (defBody s_rows_written) (defScope s_rows_written) .none kV35 dc35 pm35 an35 cd35 ct35), sl35⟩) (c35 : PySem.W.codeIn K cd35 "rows_written" = true) (k35 : PySem.W.keepIn K (.ref f35) = true)
    {f36 : Addr} {od36 an36 : Option Addr} {sl36 : Array (Option Value)} {oc36 kV36 dc36 pm36 cd36 ct36 : Value}
    (a36 : PySem.W.nsIn K mainGlobals "body_written" = some (some (.ref f36))) (l36 : K.lookup f36 = some ⟨oc36, od36, .func (PySem.W.fnOf "body_written" "body_written" (defArgs s_body_written) (defBody s_body_written) (defScope s_body_written) .none kV36 dc36 pm36 an36 cd36 ct36), sl36⟩) (c36 : PySem.W.codeIn K cd36 "body_written" = true) (k36 : PySem.W.keepIn K (.ref f36) = true)
    {f37 : Addr} {od37 an37 : Option Addr} {sl37 : Array (Option Value)} {oc37 kV37 dc37 pm37 cd37 ct37 : Value}
    (a37 : PySem.W.nsIn K mainGlobals "piece_rows" = some (some (.ref f37))) (l37 : K.lookup f37 = some ⟨oc37, od37, .func (PySem.W.fnOf "piece_rows" "piece_rows" (defArgs s_piece_rows) (defBody s_piece_rows) (defScope s_piece_rows) .none kV37 dc37 pm37 an37 cd37 ct37), sl37⟩) (c37 : PySem.W.codeIn K cd37 "piece_rows" = true) (k37 : PySem.W.keepIn K (.ref f37) = true)
    {f38 : Addr} {od38 an38 : Option Addr} {sl38 : Array (Option Value)} {oc38 kV38 dc38 pm38 cd38 ct38 : Value}
    (a38 : PySem.W.nsIn K mainGlobals "_law_word_of" = some (some (.ref f38))) (l38 : K.lookup f38 = some ⟨oc38, od38, .func (PySem.W.fnOf "_law_word_of" "_law_word_of" (defArgs s__law_word_of) (defBody s__law_word_of) (defScope s__law_word_of) .none kV38 dc38 pm38 an38 cd38 ct38), sl38⟩) (c38 : PySem.W.codeIn K cd38 "_law_word_of" = true) (k38 : PySem.W.keepIn K (.ref f38) = true)
    {f39 : Addr} {od39 an39 : Option Addr} {sl39 : Array (Option Value)} {oc39 kV39 dc39 pm39 cd39 ct39 : Value}
    (a39 : PySem.W.nsIn K mainGlobals "_law_refused" = some (some (.ref f39))) (l39 : K.lookup f39 = some ⟨oc39, od39, .func (PySem.W.fnOf "_law_refused" "_law_refused" (defArgs s__law_refused) (defBody s__law_refused) (defScope s__law_refused) .none kV39 dc39 pm39 an39 cd39 ct39), sl39⟩) (c39 : PySem.W.codeIn K cd39 "_law_refused" = true) (k39 : PySem.W.keepIn K (.ref f39) = true)
    {f40 : Addr} {od40 an40 : Option Addr} {sl40 : Array (Option Value)} {oc40 kV40 dc40 pm40 cd40 ct40 : Value}
    (a40 : PySem.W.nsIn K mainGlobals "law" = some (some (.ref f40))) (l40 : K.lookup f40 = some ⟨oc40, od40, .func (PySem.W.fnOf "law" "law" (defArgs s_law) (defBody s_law) (defScope s_law) .none kV40 dc40 pm40 an40 cd40 ct40), sl40⟩) (c40 : PySem.W.codeIn K cd40 "law" = true) (k40 : PySem.W.keepIn K (.ref f40) = true)
    (z_ValueError : PySem.W.nsIn K mainGlobals "ValueError" = some none)
    (z_all : PySem.W.nsIn K mainGlobals "all" = some none)
    (z_any : PySem.W.nsIn K mainGlobals "any" = some none)
    (z_bool : PySem.W.nsIn K mainGlobals "bool" = some none)
    (z_enumerate : PySem.W.nsIn K mainGlobals "enumerate" = some none)
    (z_int : PySem.W.nsIn K mainGlobals "int" = some none)
    (z_isinstance : PySem.W.nsIn K mainGlobals "isinstance" = some none)
    (z_len : PySem.W.nsIn K mainGlobals "len" = some none)
    (z_list : PySem.W.nsIn K mainGlobals "list" = some none)
    (z_ord : PySem.W.nsIn K mainGlobals "ord" = some none)
    (z_range : PySem.W.nsIn K mainGlobals "range" = some none)
    (z_str : PySem.W.nsIn K mainGlobals "str" = some none)
    (z_sum : PySem.W.nsIn K mainGlobals "sum" = some none)
    {C_BadBody : Addr} (n_BadBody : PySem.W.nsIn K mainGlobals "BadBody" = some (some (.ref C_BadBody)))
    {C_BadBytes : Addr} (n_BadBytes : PySem.W.nsIn K mainGlobals "BadBytes" = some (some (.ref C_BadBytes)))
    {C_BadHeader : Addr} (n_BadHeader : PySem.W.nsIn K mainGlobals "BadHeader" = some (some (.ref C_BadHeader)))
    {C_BadName : Addr} (n_BadName : PySem.W.nsIn K mainGlobals "BadName" = some (some (.ref C_BadName)))
    {C_BadPiece : Addr} (n_BadPiece : PySem.W.nsIn K mainGlobals "BadPiece" = some (some (.ref C_BadPiece)))
    {C_BadRow : Addr} (n_BadRow : PySem.W.nsIn K mainGlobals "BadRow" = some (some (.ref C_BadRow)))
    {C_BadValue : Addr} (n_BadValue : PySem.W.nsIn K mainGlobals "BadValue" = some (some (.ref C_BadValue)))
    {C_Header : Addr} (n_Header : PySem.W.nsIn K mainGlobals "Header" = some (some (.ref C_Header)))
    {C_HouseError : Addr} (n_HouseError : PySem.W.nsIn K mainGlobals "HouseError" = some (some (.ref C_HouseError)))
    {C_Piece : Addr} (n_Piece : PySem.W.nsIn K mainGlobals "Piece" = some (some (.ref C_Piece)))
    {C_TooLong : Addr} (n_TooLong : PySem.W.nsIn K mainGlobals "TooLong" = some (some (.ref C_TooLong)))
    {f7 : Addr} {od7 an7 : Option Addr} {sl7 : Array (Option Value)} {oc7 kV7 dc7 pm7 cd7 ct7 : Value}
    (a7 : PySem.W.findIn K (.ref C_Header) "__init__" = some (some (.ref f7))) (l7 : K.lookup f7 = some ⟨oc7, od7, .func (PySem.W.fnOf "__init__" "Header.__init__" (defArgs s_Header___init__) (defBody s_Header___init__) (defScope s_Header___init__) .none kV7 dc7 pm7 an7 cd7 ct7), sl7⟩) (c7 : PySem.W.codeIn K cd7 "Header.__init__" = true) (k7 : PySem.W.keepIn K (.ref f7) = true)
    {f9 T9 : Addr} {od9 an9 : Option Addr} {sl9 : Array (Option Value)} {oc9 kV9 dc9 pm9 cd9 ct9 : Value}
    (a9 : PySem.W.findIn K (.ref C_Piece) "__init__" = some (some (.ref f9))) (l9 : K.lookup f9 = some ⟨oc9, od9, .func (PySem.W.fnOf "__init__" "Piece.__init__" (defArgs s_Piece___init__) (defBody s_Piece___init__) (defScope s_Piece___init__) (.ref T9) kV9 dc9 pm9 an9 cd9 ct9), sl9⟩) (c9 : PySem.W.codeIn K cd9 "Piece.__init__" = true) (k9 : PySem.W.keepIn K (.ref f9) = true) (lT9 : dflB K T9 2 = true)
    {f17 : Addr} {od17 an17 : Option Addr} {sl17 : Array (Option Value)} {oc17 kV17 dc17 pm17 cd17 ct17 : Value}
    (a17 : PySem.W.findIn K (.ref C_Header) "value" = some (some (.ref f17))) (l17 : K.lookup f17 = some ⟨oc17, od17, .func (PySem.W.fnOf "value" "Header.value" (defArgs s_Header_value) (defBody s_Header_value) (defScope s_Header_value) .none kV17 dc17 pm17 an17 cd17 ct17), sl17⟩) (c17 : PySem.W.codeIn K cd17 "Header.value" = true) (k17 : PySem.W.keepIn K (.ref f17) = true)
    (m_Header_value : mthB K "Header" "value" f17 = true)
    (mk_Header : mkB K "Header" f7 = true)
    (mk_Piece : mkB K "Piece" f9 = true)
    (ii_Header : iiB K "Header" ci_Header = true)
    (ii_Piece : iiB K "Piece" ci_Piece = true)
    (it_list : itB K .list ct_list = true)
    (cl_Header : clsB K "Header" = true)
    (cl_Piece : clsB K "Piece" = true)
    (na_Header_known : naB K "Header" "known" = true)
    (na_Header_name : naB K "Header" "name" = true)
    (na_Piece_headers : naB K "Piece" "headers" = true)
    (na_Piece_pieces : naB K "Piece" "pieces" = true)
    (na_Piece_row : naB K "Piece" "row" = true)
    (xk_BadBytes : xK K "BadBytes" = true)
    (xk_BadName : xK K "BadName" = true)
    (xk_BadPiece : xK K "BadPiece" = true)
    (xk_BadValue : xK K "BadValue" = true)
    (xk_TooLong : xK K "TooLong" = true)
    (ki_BadBody : kiB K "BadBody" cs_BadBody = true) (ke_BadBody : (cs_BadBody.all fun x => eK K x.1) = true)
    (ki_BadBytes : kiB K "BadBytes" cs_BadBytes = true) (ke_BadBytes : (cs_BadBytes.all fun x => eK K x.1) = true)
    (ki_BadHeader : kiB K "BadHeader" cs_BadHeader = true) (ke_BadHeader : (cs_BadHeader.all fun x => eK K x.1) = true)
    (ki_BadName : kiB K "BadName" cs_BadName = true) (ke_BadName : (cs_BadName.all fun x => eK K x.1) = true)
    (ki_BadPiece : kiB K "BadPiece" cs_BadPiece = true) (ke_BadPiece : (cs_BadPiece.all fun x => eK K x.1) = true)
    (ki_BadRow : kiB K "BadRow" cs_BadRow = true) (ke_BadRow : (cs_BadRow.all fun x => eK K x.1) = true)
    (ki_BadValue : kiB K "BadValue" cs_BadValue = true) (ke_BadValue : (cs_BadValue.all fun x => eK K x.1) = true)
    (ki_TooLong : kiB K "TooLong" cs_TooLong = true) (ke_TooLong : (cs_TooLong.all fun x => eK K x.1) = true)
    (ki_ValueError : kiB K "ValueError" cs_ValueError = true) (ke_ValueError : (cs_ValueError.all fun x => eK K x.1) = true)
    (em_HouseError : emB K "HouseError" es_HouseError = true)
    {t_END : Tok} (y_END : PySem.W.nsIn K mainGlobals "END" = some (some (.int 10 t_END)))
    {t_FIRST_SIGN : Tok} (y_FIRST_SIGN : PySem.W.nsIn K mainGlobals "FIRST_SIGN" = some (some (.int 32 t_FIRST_SIGN)))
    {t_LAST_SIGN : Tok} (y_LAST_SIGN : PySem.W.nsIn K mainGlobals "LAST_SIGN" = some (some (.int 126 t_LAST_SIGN)))
    {t_LEFT_OUT : Tok} (y_LEFT_OUT : PySem.W.nsIn K mainGlobals "LEFT_OUT" = some (some (.int 37 t_LEFT_OUT)))
    {t_MOST_DEEP : Tok} (y_MOST_DEEP : PySem.W.nsIn K mainGlobals "MOST_DEEP" = some (some (.int 4 t_MOST_DEEP)))
    {t_MOST_LETTERS : Tok} (y_MOST_LETTERS : PySem.W.nsIn K mainGlobals "MOST_LETTERS" = some (some (.int 8 t_MOST_LETTERS)))
    {t_MOST_PIECES : Tok} (y_MOST_PIECES : PySem.W.nsIn K mainGlobals "MOST_PIECES" = some (some (.int 8 t_MOST_PIECES)))
    {t_MOST_ROW : Tok} (y_MOST_ROW : PySem.W.nsIn K mainGlobals "MOST_ROW" = some (some (.int 60 t_MOST_ROW)))
    {t_MOST_WORDS : Tok} (y_MOST_WORDS : PySem.W.nsIn K mainGlobals "MOST_WORDS" = some (some (.int 3 t_MOST_WORDS)))
    {t_ROW_END : Tok} (y_ROW_END : PySem.W.nsIn K mainGlobals "ROW_END" = some (some (.int 10 t_ROW_END)))
    (y_SIGNS : ∃ t, mg "SIGNS" = some (.str (tS t_01234567_b361) t))
    {t_SIXTEEN : Tok} (y_SIXTEEN : PySem.W.nsIn K mainGlobals "SIXTEEN" = some (some (.str (tS t_01234567_37b5) t_SIXTEEN)))
    (y_SIXTY : ∃ t, mg "SIXTY" = some (.str (tS t_ABCDEFGH_2ddd) t))
    {t_SMALL : Tok} (y_SMALL : PySem.W.nsIn K mainGlobals "SMALL" = some (some (.str (tS t_abcdefgh_50bd) t_SMALL))) : Fx K mg where
    a__law_mixed := f0
    fd__law_mixed := PySem.W.fnOf "_law_mixed" "_law_mixed" (defArgs s__law_mixed) (defBody s__law_mixed) (defScope s__law_mixed) .none kV0 dc0 pm0 an0 cd0 ct0
    F__law_mixed := fun_mk (st := s__law_mixed) l0 c0 k0
    g__law_mixed := PySem.W.mg_of X G a0
    b__law_mixed := (fun_mk (st := s__law_mixed) l0 c0 k0).binds fun _ _ _ _ _ _ us hl => match us, hl with | [_, _], _ => rfl
    a__law_open := f1
    fd__law_open := PySem.W.fnOf "_law_open" "_law_open" (defArgs s__law_open) (defBody s__law_open) (defScope s__law_open) .none kV1 dc1 pm1 an1 cd1 ct1
    F__law_open := fun_mk (st := s__law_open) l1 c1 k1
    g__law_open := PySem.W.mg_of X G a1
    b__law_open := (fun_mk (st := s__law_open) l1 c1 k1).binds fun _ _ _ _ _ _ us hl => match us, hl with | [], _ => rfl
    a__law_row := f2
    fd__law_row := PySem.W.fnOf "_law_row" "_law_row" (defArgs s__law_row) (defBody s__law_row) (defScope s__law_row) .none kV2 dc2 pm2 an2 cd2 ct2
    F__law_row := fun_mk (st := s__law_row) l2 c2 k2
    g__law_row := PySem.W.mg_of X G a2
    b__law_row := (fun_mk (st := s__law_row) l2 c2 k2).binds fun _ _ _ _ _ _ us hl => match us, hl with | [_], _ => rfl
    a__law_drawn := f3
    fd__law_drawn := PySem.W.fnOf "_law_drawn" "_law_drawn" (defArgs s__law_drawn) (defBody s__law_drawn) (defScope s__law_drawn) .none kV3 dc3 pm3 an3 cd3 ct3
    F__law_drawn := fun_mk (st := s__law_drawn) l3 c3 k3
    g__law_drawn := PySem.W.mg_of X G a3
    b__law_drawn := (fun_mk (st := s__law_drawn) l3 c3 k3).binds fun _ _ _ _ _ _ us hl => match us, hl with | [_], _ => rfl
    a__law_border := f4
    fd__law_border := PySem.W.fnOf "_law_border" "_law_border" (defArgs s__law_border) (defBody s__law_border) (defScope s__law_border) .none kV4 dc4 pm4 an4 cd4 ct4
    F__law_border := fun_mk (st := s__law_border) l4 c4 k4
    g__law_border := PySem.W.mg_of X G a4
    b__law_border := (fun_mk (st := s__law_border) l4 c4 k4).binds fun _ _ _ _ _ _ us hl => match us, hl with | [_], _ => rfl
    a__law_folded := f5
    fd__law_folded := PySem.W.fnOf "_law_folded" "_law_folded" (defArgs s__law_folded) (defBody s__law_folded) (defScope s__law_folded) .none kV5 dc5 pm5 an5 cd5 ct5
    F__law_folded := fun_mk (st := s__law_folded) l5 c5 k5
    g__law_folded := PySem.W.mg_of X G a5
    b__law_folded := (fun_mk (st := s__law_folded) l5 c5 k5).binds fun _ _ _ _ _ _ us hl => match us, hl with | [_, _], _ => rfl
    a__law_due := f6
    fd__law_due := PySem.W.fnOf "_law_due" "_law_due" (defArgs s__law_due) (defBody s__law_due) (defScope s__law_due) .none kV6 dc6 pm6 an6 cd6 ct6
    F__law_due := fun_mk (st := s__law_due) l6 c6 k6
    g__law_due := PySem.W.mg_of X G a6
    b__law_due := (fun_mk (st := s__law_due) l6 c6 k6).binds fun _ _ _ _ _ _ us hl => match us, hl with | [_], _ => rfl
    a_copied := f8
    fd_copied := PySem.W.fnOf "copied" "copied" (defArgs s_copied) (defBody s_copied) (defScope s_copied) .none kV8 dc8 pm8 an8 cd8 ct8
    F_copied := fun_mk (st := s_copied) l8 c8 k8
    g_copied := PySem.W.mg_of X G a8
    b_copied := (fun_mk (st := s_copied) l8 c8 k8).binds fun _ _ _ _ _ _ us hl => match us, hl with | [_], _ => rfl
    a__law_made := f10
    fd__law_made := PySem.W.fnOf "_law_made" "_law_made" (defArgs s__law_made) (defBody s__law_made) (defScope s__law_made) .none kV10 dc10 pm10 an10 cd10 ct10
    F__law_made := fun_mk (st := s__law_made) l10 c10 k10
    g__law_made := PySem.W.mg_of X G a10
    b__law_made := (fun_mk (st := s__law_made) l10 c10 k10).binds fun _ _ _ _ _ _ us hl => match us, hl with | [_], _ => rfl
    a__law_deep := f11
    fd__law_deep := PySem.W.fnOf "_law_deep" "_law_deep" (defArgs s__law_deep) (defBody s__law_deep) (defScope s__law_deep) .none kV11 dc11 pm11 an11 cd11 ct11
    F__law_deep := fun_mk (st := s__law_deep) l11 c11 k11
    g__law_deep := PySem.W.mg_of X G a11
    b__law_deep := (fun_mk (st := s__law_deep) l11 c11 k11).binds fun _ _ _ _ _ _ us hl => match us, hl with | [_, _], _ => rfl
    a_is_whole := f12
    fd_is_whole := PySem.W.fnOf "is_whole" "is_whole" (defArgs s_is_whole) (defBody s_is_whole) (defScope s_is_whole) .none kV12 dc12 pm12 an12 cd12 ct12
    F_is_whole := fun_mk (st := s_is_whole) l12 c12 k12
    g_is_whole := PySem.W.mg_of X G a12
    b_is_whole := (fun_mk (st := s_is_whole) l12 c12 k12).binds fun _ _ _ _ _ _ us hl => match us, hl with | [_], _ => rfl
    a_is_byte := f13
    fd_is_byte := PySem.W.fnOf "is_byte" "is_byte" (defArgs s_is_byte) (defBody s_is_byte) (defScope s_is_byte) .none kV13 dc13 pm13 an13 cd13 ct13
    F_is_byte := fun_mk (st := s_is_byte) l13 c13 k13
    g_is_byte := PySem.W.mg_of X G a13
    b_is_byte := (fun_mk (st := s_is_byte) l13 c13 k13).binds fun _ _ _ _ _ _ us hl => match us, hl with | [_], _ => rfl
    a_are_bytes := f14
    fd_are_bytes := PySem.W.fnOf "are_bytes" "are_bytes" (defArgs s_are_bytes) (defBody s_are_bytes) (defScope s_are_bytes) .none kV14 dc14 pm14 an14 cd14 ct14
    F_are_bytes := fun_mk (st := s_are_bytes) l14 c14 k14
    g_are_bytes := PySem.W.mg_of X G a14
    b_are_bytes := (fun_mk (st := s_are_bytes) l14 c14 k14).binds fun _ _ _ _ _ _ us hl => match us, hl with | [_], _ => rfl
    a_is_piece := f15
    fd_is_piece := PySem.W.fnOf "is_piece" "is_piece" (defArgs s_is_piece) (defBody s_is_piece) (defScope s_is_piece) .none kV15 dc15 pm15 an15 cd15 ct15
    F_is_piece := fun_mk (st := s_is_piece) l15 c15 k15
    g_is_piece := PySem.W.mg_of X G a15
    b_is_piece := (fun_mk (st := s_is_piece) l15 c15 k15).binds fun _ _ _ _ _ _ us hl => match us, hl with | [_, _], _ => rfl
    a_need_piece := f16
    fd_need_piece := PySem.W.fnOf "need_piece" "need_piece" (defArgs s_need_piece) (defBody s_need_piece) (defScope s_need_piece) .none kV16 dc16 pm16 an16 cd16 ct16
    F_need_piece := fun_mk (st := s_need_piece) l16 c16 k16
    g_need_piece := PySem.W.mg_of X G a16
    b_need_piece := (fun_mk (st := s_need_piece) l16 c16 k16).binds fun _ _ _ _ _ _ us hl => match us, hl with | [_], _ => rfl
    a_border_of := f18
    fd_border_of := PySem.W.fnOf "border_of" "border_of" (defArgs s_border_of) (defBody s_border_of) (defScope s_border_of) .none kV18 dc18 pm18 an18 cd18 ct18
    F_border_of := fun_mk (st := s_border_of) l18 c18 k18
    g_border_of := PySem.W.mg_of X G a18
    b_border_of := (fun_mk (st := s_border_of) l18 c18 k18).binds fun _ _ _ _ _ _ us hl => match us, hl with | [_], _ => rfl
    a_sign_by := f19
    fd_sign_by := PySem.W.fnOf "sign_by" "sign_by" (defArgs s_sign_by) (defBody s_sign_by) (defScope s_sign_by) .none kV19 dc19 pm19 an19 cd19 ct19
    F_sign_by := fun_mk (st := s_sign_by) l19 c19 k19
    g_sign_by := PySem.W.mg_of X G a19
    b_sign_by := (fun_mk (st := s_sign_by) l19 c19 k19).binds fun _ _ _ _ _ _ us hl => match us, hl with | [_], _ => rfl
    a_plain_rows := f20
    fd_plain_rows := PySem.W.fnOf "plain_rows" "plain_rows" (defArgs s_plain_rows) (defBody s_plain_rows) (defScope s_plain_rows) .none kV20 dc20 pm20 an20 cd20 ct20
    F_plain_rows := fun_mk (st := s_plain_rows) l20 c20 k20
    g_plain_rows := PySem.W.mg_of X G a20
    b_plain_rows := (fun_mk (st := s_plain_rows) l20 c20 k20).binds fun _ _ _ _ _ _ us hl => match us, hl with | [_], _ => rfl
    a_signs_in := f21
    fd_signs_in := PySem.W.fnOf "signs_in" "signs_in" (defArgs s_signs_in) (defBody s_signs_in) (defScope s_signs_in) .none kV21 dc21 pm21 an21 cd21 ct21
    F_signs_in := fun_mk (st := s_signs_in) l21 c21 k21
    g_signs_in := PySem.W.mg_of X G a21
    b_signs_in := (fun_mk (st := s_signs_in) l21 c21 k21).binds fun _ _ _ _ _ _ us hl => match us, hl with | [_], _ => rfl
    a_cut_rows := f22
    fd_cut_rows := PySem.W.fnOf "cut_rows" "cut_rows" (defArgs s_cut_rows) (defBody s_cut_rows) (defScope s_cut_rows) .none kV22 dc22 pm22 an22 cd22 ct22
    F_cut_rows := fun_mk (st := s_cut_rows) l22 c22 k22
    g_cut_rows := PySem.W.mg_of X G a22
    b_cut_rows := (fun_mk (st := s_cut_rows) l22 c22 k22).binds fun _ _ _ _ _ _ us hl => match us, hl with | [_], _ => rfl
    a_need_bytes := f23
    fd_need_bytes := PySem.W.fnOf "need_bytes" "need_bytes" (defArgs s_need_bytes) (defBody s_need_bytes) (defScope s_need_bytes) .none kV23 dc23 pm23 an23 cd23 ct23
    F_need_bytes := fun_mk (st := s_need_bytes) l23 c23 k23
    g_need_bytes := PySem.W.mg_of X G a23
    b_need_bytes := (fun_mk (st := s_need_bytes) l23 c23 k23).binds fun _ _ _ _ _ _ us hl => match us, hl with | [_], _ => rfl
    a_parted := f24
    fd_parted := PySem.W.fnOf "parted" "parted" (defArgs s_parted) (defBody s_parted) (defScope s_parted) .none kV24 dc24 pm24 an24 cd24 ct24
    F_parted := fun_mk (st := s_parted) l24 c24 k24
    g_parted := PySem.W.mg_of X G a24
    b_parted := (fun_mk (st := s_parted) l24 c24 k24).binds fun _ _ _ _ _ _ us hl => match us, hl with | [_], _ => rfl
    a_unit_of := f25
    fd_unit_of := PySem.W.fnOf "unit_of" "unit_of" (defArgs s_unit_of) (defBody s_unit_of) (defScope s_unit_of) .none kV25 dc25 pm25 an25 cd25 ct25
    F_unit_of := fun_mk (st := s_unit_of) l25 c25 k25
    g_unit_of := PySem.W.mg_of X G a25
    b_unit_of := (fun_mk (st := s_unit_of) l25 c25 k25).binds fun _ _ _ _ _ _ us hl => match us, hl with | [_, _], _ => rfl
    a_sixteens_of := f26
    fd_sixteens_of := PySem.W.fnOf "sixteens_of" "sixteens_of" (defArgs s_sixteens_of) (defBody s_sixteens_of) (defScope s_sixteens_of) .none kV26 dc26 pm26 an26 cd26 ct26
    F_sixteens_of := fun_mk (st := s_sixteens_of) l26 c26 k26
    g_sixteens_of := PySem.W.mg_of X G a26
    b_sixteens_of := (fun_mk (st := s_sixteens_of) l26 c26 k26).binds fun _ _ _ _ _ _ us hl => match us, hl with | [_], _ => rfl
    a_four_of := f27
    fd_four_of := PySem.W.fnOf "four_of" "four_of" (defArgs s_four_of) (defBody s_four_of) (defScope s_four_of) .none kV27 dc27 pm27 an27 cd27 ct27
    F_four_of := fun_mk (st := s_four_of) l27 c27 k27
    g_four_of := PySem.W.mg_of X G a27
    b_four_of := (fun_mk (st := s_four_of) l27 c27 k27).binds fun _ _ _ _ _ _ us hl => match us, hl with | [_], _ => rfl
    a_sixty_of := f28
    fd_sixty_of := PySem.W.fnOf "sixty_of" "sixty_of" (defArgs s_sixty_of) (defBody s_sixty_of) (defScope s_sixty_of) .none kV28 dc28 pm28 an28 cd28 ct28
    F_sixty_of := fun_mk (st := s_sixty_of) l28 c28 k28
    g_sixty_of := PySem.W.mg_of X G a28
    b_sixty_of := (fun_mk (st := s_sixty_of) l28 c28 k28).binds fun _ _ _ _ _ _ us hl => match us, hl with | [_], _ => rfl
    a_bytes_written := f29
    fd_bytes_written := PySem.W.fnOf "bytes_written" "bytes_written" (defArgs s_bytes_written) (defBody s_bytes_written) (defScope s_bytes_written) .none kV29 dc29 pm29 an29 cd29 ct29
    F_bytes_written := fun_mk (st := s_bytes_written) l29 c29 k29
    g_bytes_written := PySem.W.mg_of X G a29
    b_bytes_written := (fun_mk (st := s_bytes_written) l29 c29 k29).binds fun _ _ _ _ _ _ us hl => match us, hl with | [_], _ => rfl
    a_are_among := f30
    fd_are_among := PySem.W.fnOf "are_among" "are_among" (defArgs s_are_among) (defBody s_are_among) (defScope s_are_among) .none kV30 dc30 pm30 an30 cd30 ct30
    F_are_among := fun_mk (st := s_are_among) l30 c30 k30
    g_are_among := PySem.W.mg_of X G a30
    b_are_among := (fun_mk (st := s_are_among) l30 c30 k30).binds fun _ _ _ _ _ _ us hl => match us, hl with | [_, _], _ => rfl
    a_is_header_name := f31
    fd_is_header_name := PySem.W.fnOf "is_header_name" "is_header_name" (defArgs s_is_header_name) (defBody s_is_header_name) (defScope s_is_header_name) .none kV31 dc31 pm31 an31 cd31 ct31
    F_is_header_name := fun_mk (st := s_is_header_name) l31 c31 k31
    g_is_header_name := PySem.W.mg_of X G a31
    b_is_header_name := (fun_mk (st := s_is_header_name) l31 c31 k31).binds fun _ _ _ _ _ _ us hl => match us, hl with | [_], _ => rfl
    a_is_value := f32
    fd_is_value := PySem.W.fnOf "is_value" "is_value" (defArgs s_is_value) (defBody s_is_value) (defScope s_is_value) .none kV32 dc32 pm32 an32 cd32 ct32
    F_is_value := fun_mk (st := s_is_value) l32 c32 k32
    g_is_value := PySem.W.mg_of X G a32
    b_is_value := (fun_mk (st := s_is_value) l32 c32 k32).binds fun _ _ _ _ _ _ us hl => match us, hl with | [_], _ => rfl
    a_words_in := f33
    fd_words_in := PySem.W.fnOf "words_in" "words_in" (defArgs s_words_in) (defBody s_words_in) (defScope s_words_in) .none kV33 dc33 pm33 an33 cd33 ct33
    F_words_in := fun_mk (st := s_words_in) l33 c33 k33
    g_words_in := PySem.W.mg_of X G a33
    b_words_in := (fun_mk (st := s_words_in) l33 c33 k33).binds fun _ _ _ _ _ _ us hl => match us, hl with | [_], _ => rfl
    a_folded := f34
    fd_folded := PySem.W.fnOf "folded" "folded" (defArgs s_folded) (defBody s_folded) (defScope s_folded) .none kV34 dc34 pm34 an34 cd34 ct34
    F_folded := fun_mk (st := s_folded) l34 c34 k34
    g_folded := PySem.W.mg_of X G a34
    b_folded := (fun_mk (st := s_folded) l34 c34 k34).binds fun _ _ _ _ _ _ us hl => match us, hl with | [_, _], _ => rfl
    a_rows_written := f35
    fd_rows_written := PySem.W.fnOf "rows_written" "rows_written" (defArgs s_rows_written) (defBody s_rows_written) (defScope s_rows_written) .none kV35 dc35 pm35 an35 cd35 ct35
    F_rows_written := fun_mk (st := s_rows_written) l35 c35 k35
    g_rows_written := PySem.W.mg_of X G a35
    b_rows_written := (fun_mk (st := s_rows_written) l35 c35 k35).binds fun _ _ _ _ _ _ us hl => match us, hl with | [_], _ => rfl
    a_body_written := f36
    fd_body_written := PySem.W.fnOf "body_written" "body_written" (defArgs s_body_written) (defBody s_body_written) (defScope s_body_written) .none kV36 dc36 pm36 an36 cd36 ct36
    F_body_written := fun_mk (st := s_body_written) l36 c36 k36
    g_body_written := PySem.W.mg_of X G a36
    b_body_written := (fun_mk (st := s_body_written) l36 c36 k36).binds fun _ _ _ _ _ _ us hl => match us, hl with | [_], _ => rfl
    a_piece_rows := f37
    fd_piece_rows := PySem.W.fnOf "piece_rows" "piece_rows" (defArgs s_piece_rows) (defBody s_piece_rows) (defScope s_piece_rows) .none kV37 dc37 pm37 an37 cd37 ct37
    F_piece_rows := fun_mk (st := s_piece_rows) l37 c37 k37
    g_piece_rows := PySem.W.mg_of X G a37
    b_piece_rows := (fun_mk (st := s_piece_rows) l37 c37 k37).binds fun _ _ _ _ _ _ us hl => match us, hl with | [_], _ => rfl
    a__law_word_of := f38
    fd__law_word_of := PySem.W.fnOf "_law_word_of" "_law_word_of" (defArgs s__law_word_of) (defBody s__law_word_of) (defScope s__law_word_of) .none kV38 dc38 pm38 an38 cd38 ct38
    F__law_word_of := fun_mk (st := s__law_word_of) l38 c38 k38
    g__law_word_of := PySem.W.mg_of X G a38
    b__law_word_of := (fun_mk (st := s__law_word_of) l38 c38 k38).binds fun _ _ _ _ _ _ us hl => match us, hl with | [_], _ => rfl
    a__law_refused := f39
    fd__law_refused := PySem.W.fnOf "_law_refused" "_law_refused" (defArgs s__law_refused) (defBody s__law_refused) (defScope s__law_refused) .none kV39 dc39 pm39 an39 cd39 ct39
    F__law_refused := fun_mk (st := s__law_refused) l39 c39 k39
    g__law_refused := PySem.W.mg_of X G a39
    b__law_refused := (fun_mk (st := s__law_refused) l39 c39 k39).binds fun _ _ _ _ _ _ us hl => match us, hl with | [_, _], _ => rfl
    a_law := f40
    fd_law := PySem.W.fnOf "law" "law" (defArgs s_law) (defBody s_law) (defScope s_law) .none kV40 dc40 pm40 an40 cd40 ct40
    F_law := fun_mk (st := s_law) l40 c40 k40
    g_law := PySem.W.mg_of X G a40
    b_law := (fun_mk (st := s_law) l40 c40 k40).binds fun _ _ _ _ _ _ us hl => match us, hl with | [_], _ => rfl
    z_ValueError := PySem.W.mg_none_of X G z_ValueError
    z_all := PySem.W.mg_none_of X G z_all
    z_any := PySem.W.mg_none_of X G z_any
    z_bool := PySem.W.mg_none_of X G z_bool
    z_enumerate := PySem.W.mg_none_of X G z_enumerate
    z_int := PySem.W.mg_none_of X G z_int
    z_isinstance := PySem.W.mg_none_of X G z_isinstance
    z_len := PySem.W.mg_none_of X G z_len
    z_list := PySem.W.mg_none_of X G z_list
    z_ord := PySem.W.mg_none_of X G z_ord
    z_range := PySem.W.mg_none_of X G z_range
    z_str := PySem.W.mg_none_of X G z_str
    z_sum := PySem.W.mg_none_of X G z_sum
    gx_BadBody := by rw [clK_of (c := "BadBody") n_BadBody]; exact PySem.W.mg_of X G n_BadBody
    gx_BadBytes := by rw [clK_of (c := "BadBytes") n_BadBytes]; exact PySem.W.mg_of X G n_BadBytes
    gx_BadHeader := by rw [clK_of (c := "BadHeader") n_BadHeader]; exact PySem.W.mg_of X G n_BadHeader
    gx_BadName := by rw [clK_of (c := "BadName") n_BadName]; exact PySem.W.mg_of X G n_BadName
    gx_BadPiece := by rw [clK_of (c := "BadPiece") n_BadPiece]; exact PySem.W.mg_of X G n_BadPiece
    gx_BadRow := by rw [clK_of (c := "BadRow") n_BadRow]; exact PySem.W.mg_of X G n_BadRow
    gx_BadValue := by rw [clK_of (c := "BadValue") n_BadValue]; exact PySem.W.mg_of X G n_BadValue
    gx_Header := by rw [clK_of (c := "Header") n_Header]; exact PySem.W.mg_of X G n_Header
    gx_HouseError := by rw [clK_of (c := "HouseError") n_HouseError]; exact PySem.W.mg_of X G n_HouseError
    gx_Piece := by rw [clK_of (c := "Piece") n_Piece]; exact PySem.W.mg_of X G n_Piece
    gx_TooLong := by rw [clK_of (c := "TooLong") n_TooLong]; exact PySem.W.mg_of X G n_TooLong
    a_Header___init__ := f7
    fd_Header___init__ := PySem.W.fnOf "__init__" "Header.__init__" (defArgs s_Header___init__) (defBody s_Header___init__) (defScope s_Header___init__) .none kV7 dc7 pm7 an7 cd7 ct7
    F_Header___init__ := fun_mk (st := s_Header___init__) l7 c7 k7
    b_Header___init__ := (fun_mk (st := s_Header___init__) l7 c7 k7).binds fun _ _ _ _ _ _ us hl => match us, hl with | [_, _, _], _ => rfl
    a_Piece___init__ := f9
    fd_Piece___init__ := PySem.W.fnOf "__init__" "Piece.__init__" (defArgs s_Piece___init__) (defBody s_Piece___init__) (defScope s_Piece___init__) (.ref T9) kV9 dc9 pm9 an9 cd9 ct9
    F_Piece___init__ := (funD_mk (st := s_Piece___init__) l9 c9 k9 lT9)
    b_Piece___init__ := by
      obtain ⟨ds, h, b⟩ := (funD_mk (st := s_Piece___init__) l9 c9 k9 lT9).binds1 (n := 4) (ps := ["self", "headers", "row", "pieces"]) (j := 2) (by simp) rfl fun T kV doc pm an cdv ct us its h1 h2 => match us, its, h1, h2 with | [_, _, _, _], [_, _], _, _ => ⟨_, rfl, rfl⟩
      cases (show Vals [] ds from h)
      exact b
    vb1_Piece___init__ := Classical.choose ((funD_mk (st := s_Piece___init__) l9 c9 k9 lT9).binds1 (n := 3) (ps := ["self", "headers", "row", "pieces"]) (j := 1) (by simp) rfl fun T kV doc pm an cdv ct us its h1 h2 => match us, its, h1, h2 with | [_, _, _], [_, _], _, _ => ⟨_, rfl, rfl⟩)
    b1_Piece___init__ := Classical.choose_spec ((funD_mk (st := s_Piece___init__) l9 c9 k9 lT9).binds1 (n := 3) (ps := ["self", "headers", "row", "pieces"]) (j := 1) (by simp) rfl fun T kV doc pm an cdv ct us its h1 h2 => match us, its, h1, h2 with | [_, _, _], [_, _], _, _ => ⟨_, rfl, rfl⟩)
    vb2_Piece___init__ := Classical.choose ((funD_mk (st := s_Piece___init__) l9 c9 k9 lT9).binds1 (n := 2) (ps := ["self", "headers", "row", "pieces"]) (j := 0) (by simp) rfl fun T kV doc pm an cdv ct us its h1 h2 => match us, its, h1, h2 with | [_, _], [_, _], _, _ => ⟨_, rfl, rfl⟩)
    b2_Piece___init__ := Classical.choose_spec ((funD_mk (st := s_Piece___init__) l9 c9 k9 lT9).binds1 (n := 2) (ps := ["self", "headers", "row", "pieces"]) (j := 0) (by simp) rfl fun T kV doc pm an cdv ct us its h1 h2 => match us, its, h1, h2 with | [_, _], [_, _], _, _ => ⟨_, rfl, rfl⟩)
    a_Header_value := f17
    fd_Header_value := PySem.W.fnOf "value" "Header.value" (defArgs s_Header_value) (defBody s_Header_value) (defScope s_Header_value) .none kV17 dc17 pm17 an17 cd17 ct17
    F_Header_value := fun_mk (st := s_Header_value) l17 c17 k17
    b_Header_value := (fun_mk (st := s_Header_value) l17 c17 k17).binds fun _ _ _ _ _ _ us hl => match us, hl with | [_], _ => rfl
    m_Header_value := m_Header_value
    mk_Header := mk_Header
    mk_Piece := mk_Piece
    ii_Header := ii_Header
    ii_Piece := ii_Piece
    it_list := it_list
    cl_Header := cl_Header
    cl_Piece := cl_Piece
    na_Header_known := na_Header_known
    na_Header_name := na_Header_name
    na_Piece_headers := na_Piece_headers
    na_Piece_pieces := na_Piece_pieces
    na_Piece_row := na_Piece_row
    xk_BadBytes := xk_BadBytes
    xk_BadName := xk_BadName
    xk_BadPiece := xk_BadPiece
    xk_BadValue := xk_BadValue
    xk_TooLong := xk_TooLong
    ki_BadBody := ki_BadBody
    ke_BadBody := ke_BadBody
    ki_BadBytes := ki_BadBytes
    ke_BadBytes := ke_BadBytes
    ki_BadHeader := ki_BadHeader
    ke_BadHeader := ke_BadHeader
    ki_BadName := ki_BadName
    ke_BadName := ke_BadName
    ki_BadPiece := ki_BadPiece
    ke_BadPiece := ke_BadPiece
    ki_BadRow := ki_BadRow
    ke_BadRow := ke_BadRow
    ki_BadValue := ki_BadValue
    ke_BadValue := ke_BadValue
    ki_TooLong := ki_TooLong
    ke_TooLong := ke_TooLong
    ki_ValueError := ki_ValueError
    ke_ValueError := ke_ValueError
    em_HouseError := em_ok em_HouseError
    c_END := ⟨t_END, PySem.W.mg_of X G y_END⟩
    c_FIRST_SIGN := ⟨t_FIRST_SIGN, PySem.W.mg_of X G y_FIRST_SIGN⟩
    c_LAST_SIGN := ⟨t_LAST_SIGN, PySem.W.mg_of X G y_LAST_SIGN⟩
    c_LEFT_OUT := ⟨t_LEFT_OUT, PySem.W.mg_of X G y_LEFT_OUT⟩
    c_MOST_DEEP := ⟨t_MOST_DEEP, PySem.W.mg_of X G y_MOST_DEEP⟩
    c_MOST_LETTERS := ⟨t_MOST_LETTERS, PySem.W.mg_of X G y_MOST_LETTERS⟩
    c_MOST_PIECES := ⟨t_MOST_PIECES, PySem.W.mg_of X G y_MOST_PIECES⟩
    c_MOST_ROW := ⟨t_MOST_ROW, PySem.W.mg_of X G y_MOST_ROW⟩
    c_MOST_WORDS := ⟨t_MOST_WORDS, PySem.W.mg_of X G y_MOST_WORDS⟩
    c_ROW_END := ⟨t_ROW_END, PySem.W.mg_of X G y_ROW_END⟩
    c_SIGNS := y_SIGNS
    c_SIXTEEN := ⟨t_SIXTEEN, PySem.W.mg_of X G y_SIXTEEN⟩
    c_SIXTY := y_SIXTY
    c_SMALL := ⟨t_SMALL, PySem.W.mg_of X G y_SMALL⟩
theorem end_mk {l : PySem.W.OpenLaw} {w : World} {K : PySem.W.Frag} {h : Heap} {mg : Str → Option Value} {fa : Addr} (X : K.In h) (G : h.Ns mainGlobals mg) (hfa : mg "law" = some (.ref fa))
    {f0 : Addr} {od0 an0 : Option Addr} {sl0 : Array (Option Value)} {oc0 kV0 dc0 pm0 cd0 ct0 : Value}
    (a0 : PySem.W.nsIn K mainGlobals "_law_mixed" = some (some (.ref f0))) (l0 : K.lookup f0 = some ⟨oc0, od0, .func (PySem.W.fnOf "_law_mixed" "_law_mixed" (defArgs s__law_mixed) (defBody s__law_mixed) (defScope s__law_mixed) .none kV0 dc0 pm0 an0 cd0 ct0), sl0⟩) (c0 : PySem.W.codeIn K cd0 "_law_mixed" = true) (k0 : PySem.W.keepIn K (.ref f0) = true)
    {f1 : Addr} {od1 an1 : Option Addr} {sl1 : Array (Option Value)} {oc1 kV1 dc1 pm1 cd1 ct1 : Value}
    (a1 : PySem.W.nsIn K mainGlobals "_law_open" = some (some (.ref f1))) (l1 : K.lookup f1 = some ⟨oc1, od1, .func (PySem.W.fnOf "_law_open" "_law_open" (defArgs s__law_open) (defBody s__law_open) (defScope s__law_open) .none kV1 dc1 pm1 an1 cd1 ct1), sl1⟩) (c1 : PySem.W.codeIn K cd1 "_law_open" = true) (k1 : PySem.W.keepIn K (.ref f1) = true)
    {f2 : Addr} {od2 an2 : Option Addr} {sl2 : Array (Option Value)} {oc2 kV2 dc2 pm2 cd2 ct2 : Value}
    (a2 : PySem.W.nsIn K mainGlobals "_law_row" = some (some (.ref f2))) (l2 : K.lookup f2 = some ⟨oc2, od2, .func (PySem.W.fnOf "_law_row" "_law_row" (defArgs s__law_row) (defBody s__law_row) (defScope s__law_row) .none kV2 dc2 pm2 an2 cd2 ct2), sl2⟩) (c2 : PySem.W.codeIn K cd2 "_law_row" = true) (k2 : PySem.W.keepIn K (.ref f2) = true)
    {f3 : Addr} {od3 an3 : Option Addr} {sl3 : Array (Option Value)} {oc3 kV3 dc3 pm3 cd3 ct3 : Value}
    (a3 : PySem.W.nsIn K mainGlobals "_law_drawn" = some (some (.ref f3))) (l3 : K.lookup f3 = some ⟨oc3, od3, .func (PySem.W.fnOf "_law_drawn" "_law_drawn" (defArgs s__law_drawn) (defBody s__law_drawn) (defScope s__law_drawn) .none kV3 dc3 pm3 an3 cd3 ct3), sl3⟩) (c3 : PySem.W.codeIn K cd3 "_law_drawn" = true) (k3 : PySem.W.keepIn K (.ref f3) = true)
    {f4 : Addr} {od4 an4 : Option Addr} {sl4 : Array (Option Value)} {oc4 kV4 dc4 pm4 cd4 ct4 : Value}
    (a4 : PySem.W.nsIn K mainGlobals "_law_border" = some (some (.ref f4))) (l4 : K.lookup f4 = some ⟨oc4, od4, .func (PySem.W.fnOf "_law_border" "_law_border" (defArgs s__law_border) (defBody s__law_border) (defScope s__law_border) .none kV4 dc4 pm4 an4 cd4 ct4), sl4⟩) (c4 : PySem.W.codeIn K cd4 "_law_border" = true) (k4 : PySem.W.keepIn K (.ref f4) = true)
    {f5 : Addr} {od5 an5 : Option Addr} {sl5 : Array (Option Value)} {oc5 kV5 dc5 pm5 cd5 ct5 : Value}
    (a5 : PySem.W.nsIn K mainGlobals "_law_folded" = some (some (.ref f5))) (l5 : K.lookup f5 = some ⟨oc5, od5, .func (PySem.W.fnOf "_law_folded" "_law_folded" (defArgs s__law_folded) (defBody s__law_folded) (defScope s__law_folded) .none kV5 dc5 pm5 an5 cd5 ct5), sl5⟩) (c5 : PySem.W.codeIn K cd5 "_law_folded" = true) (k5 : PySem.W.keepIn K (.ref f5) = true)
    {f6 : Addr} {od6 an6 : Option Addr} {sl6 : Array (Option Value)} {oc6 kV6 dc6 pm6 cd6 ct6 : Value}
    (a6 : PySem.W.nsIn K mainGlobals "_law_due" = some (some (.ref f6))) (l6 : K.lookup f6 = some ⟨oc6, od6, .func (PySem.W.fnOf "_law_due" "_law_due" (defArgs s__law_due) (defBody s__law_due) (defScope s__law_due) .none kV6 dc6 pm6 an6 cd6 ct6), sl6⟩) (c6 : PySem.W.codeIn K cd6 "_law_due" = true) (k6 : PySem.W.keepIn K (.ref f6) = true)
    {f8 : Addr} {od8 an8 : Option Addr} {sl8 : Array (Option Value)} {oc8 kV8 dc8 pm8 cd8 ct8 : Value}
    (a8 : PySem.W.nsIn K mainGlobals "copied" = some (some (.ref f8))) (l8 : K.lookup f8 = some ⟨oc8, od8, .func (PySem.W.fnOf "copied" "copied" (defArgs s_copied) (defBody s_copied) (defScope s_copied) .none kV8 dc8 pm8 an8 cd8 ct8), sl8⟩) (c8 : PySem.W.codeIn K cd8 "copied" = true) (k8 : PySem.W.keepIn K (.ref f8) = true)
    {f10 : Addr} {od10 an10 : Option Addr} {sl10 : Array (Option Value)} {oc10 kV10 dc10 pm10 cd10 ct10 : Value}
    (a10 : PySem.W.nsIn K mainGlobals "_law_made" = some (some (.ref f10))) (l10 : K.lookup f10 = some ⟨oc10, od10, .func (PySem.W.fnOf "_law_made" "_law_made" (defArgs s__law_made) (defBody s__law_made) (defScope s__law_made) .none kV10 dc10 pm10 an10 cd10 ct10), sl10⟩) (c10 : PySem.W.codeIn K cd10 "_law_made" = true) (k10 : PySem.W.keepIn K (.ref f10) = true)
    {f11 : Addr} {od11 an11 : Option Addr} {sl11 : Array (Option Value)} {oc11 kV11 dc11 pm11 cd11 ct11 : Value}
    (a11 : PySem.W.nsIn K mainGlobals "_law_deep" = some (some (.ref f11))) (l11 : K.lookup f11 = some ⟨oc11, od11, .func (PySem.W.fnOf "_law_deep" "_law_deep" (defArgs s__law_deep) (defBody s__law_deep) (defScope s__law_deep) .none kV11 dc11 pm11 an11 cd11 ct11), sl11⟩) (c11 : PySem.W.codeIn K cd11 "_law_deep" = true) (k11 : PySem.W.keepIn K (.ref f11) = true)
    {f12 : Addr} {od12 an12 : Option Addr} {sl12 : Array (Option Value)} {oc12 kV12 dc12 pm12 cd12 ct12 : Value}
    (a12 : PySem.W.nsIn K mainGlobals "is_whole" = some (some (.ref f12))) (l12 : K.lookup f12 = some ⟨oc12, od12, .func (PySem.W.fnOf "is_whole" "is_whole" (defArgs s_is_whole) (defBody s_is_whole) (defScope s_is_whole) .none kV12 dc12 pm12 an12 cd12 ct12), sl12⟩) (c12 : PySem.W.codeIn K cd12 "is_whole" = true) (k12 : PySem.W.keepIn K (.ref f12) = true)
    {f13 : Addr} {od13 an13 : Option Addr} {sl13 : Array (Option Value)} {oc13 kV13 dc13 pm13 cd13 ct13 : Value}
    (a13 : PySem.W.nsIn K mainGlobals "is_byte" = some (some (.ref f13))) (l13 : K.lookup f13 = some ⟨oc13, od13, .func (PySem.W.fnOf "is_byte" "is_byte" (defArgs s_is_byte) (defBody s_is_byte) (defScope s_is_byte) .none kV13 dc13 pm13 an13 cd13 ct13), sl13⟩) (c13 : PySem.W.codeIn K cd13 "is_byte" = true) (k13 : PySem.W.keepIn K (.ref f13) = true)
    {f14 : Addr} {od14 an14 : Option Addr} {sl14 : Array (Option Value)} {oc14 kV14 dc14 pm14 cd14 ct14 : Value}
    (a14 : PySem.W.nsIn K mainGlobals "are_bytes" = some (some (.ref f14))) (l14 : K.lookup f14 = some ⟨oc14, od14, .func (PySem.W.fnOf "are_bytes" "are_bytes" (defArgs s_are_bytes) (defBody s_are_bytes) (defScope s_are_bytes) .none kV14 dc14 pm14 an14 cd14 ct14), sl14⟩) (c14 : PySem.W.codeIn K cd14 "are_bytes" = true) (k14 : PySem.W.keepIn K (.ref f14) = true)
    {f15 : Addr} {od15 an15 : Option Addr} {sl15 : Array (Option Value)} {oc15 kV15 dc15 pm15 cd15 ct15 : Value}
    (a15 : PySem.W.nsIn K mainGlobals "is_piece" = some (some (.ref f15))) (l15 : K.lookup f15 = some ⟨oc15, od15, .func (PySem.W.fnOf "is_piece" "is_piece" (defArgs s_is_piece) (defBody s_is_piece) (defScope s_is_piece) .none kV15 dc15 pm15 an15 cd15 ct15), sl15⟩) (c15 : PySem.W.codeIn K cd15 "is_piece" = true) (k15 : PySem.W.keepIn K (.ref f15) = true)
    {f16 : Addr} {od16 an16 : Option Addr} {sl16 : Array (Option Value)} {oc16 kV16 dc16 pm16 cd16 ct16 : Value}
    (a16 : PySem.W.nsIn K mainGlobals "need_piece" = some (some (.ref f16))) (l16 : K.lookup f16 = some ⟨oc16, od16, .func (PySem.W.fnOf "need_piece" "need_piece" (defArgs s_need_piece) (defBody s_need_piece) (defScope s_need_piece) .none kV16 dc16 pm16 an16 cd16 ct16), sl16⟩) (c16 : PySem.W.codeIn K cd16 "need_piece" = true) (k16 : PySem.W.keepIn K (.ref f16) = true)
    {f18 : Addr} {od18 an18 : Option Addr} {sl18 : Array (Option Value)} {oc18 kV18 dc18 pm18 cd18 ct18 : Value}
    (a18 : PySem.W.nsIn K mainGlobals "border_of" = some (some (.ref f18))) (l18 : K.lookup f18 = some ⟨oc18, od18, .func (PySem.W.fnOf "border_of" "border_of" (defArgs s_border_of) (defBody s_border_of) (defScope s_border_of) .none kV18 dc18 pm18 an18 cd18 ct18), sl18⟩) (c18 : PySem.W.codeIn K cd18 "border_of" = true) (k18 : PySem.W.keepIn K (.ref f18) = true)
    {f19 : Addr} {od19 an19 : Option Addr} {sl19 : Array (Option Value)} {oc19 kV19 dc19 pm19 cd19 ct19 : Value}
    (a19 : PySem.W.nsIn K mainGlobals "sign_by" = some (some (.ref f19))) (l19 : K.lookup f19 = some ⟨oc19, od19, .func (PySem.W.fnOf "sign_by" "sign_by" (defArgs s_sign_by) (defBody s_sign_by) (defScope s_sign_by) .none kV19 dc19 pm19 an19 cd19 ct19), sl19⟩) (c19 : PySem.W.codeIn K cd19 "sign_by" = true) (k19 : PySem.W.keepIn K (.ref f19) = true)
    {f20 : Addr} {od20 an20 : Option Addr} {sl20 : Array (Option Value)} {oc20 kV20 dc20 pm20 cd20 ct20 : Value}
    (a20 : PySem.W.nsIn K mainGlobals "plain_rows" = some (some (.ref f20))) (l20 : K.lookup f20 = some ⟨oc20, od20, .func (PySem.W.fnOf "plain_rows" "plain_rows" (defArgs s_plain_rows) (defBody s_plain_rows) (defScope s_plain_rows) .none kV20 dc20 pm20 an20 cd20 ct20), sl20⟩) (c20 : PySem.W.codeIn K cd20 "plain_rows" = true) (k20 : PySem.W.keepIn K (.ref f20) = true)
    {f21 : Addr} {od21 an21 : Option Addr} {sl21 : Array (Option Value)} {oc21 kV21 dc21 pm21 cd21 ct21 : Value}
    (a21 : PySem.W.nsIn K mainGlobals "signs_in" = some (some (.ref f21))) (l21 : K.lookup f21 = some ⟨oc21, od21, .func (PySem.W.fnOf "signs_in" "signs_in" (defArgs s_signs_in) (defBody s_signs_in) (defScope s_signs_in) .none kV21 dc21 pm21 an21 cd21 ct21), sl21⟩) (c21 : PySem.W.codeIn K cd21 "signs_in" = true) (k21 : PySem.W.keepIn K (.ref f21) = true)
    {f22 : Addr} {od22 an22 : Option Addr} {sl22 : Array (Option Value)} {oc22 kV22 dc22 pm22 cd22 ct22 : Value}
    (a22 : PySem.W.nsIn K mainGlobals "cut_rows" = some (some (.ref f22))) (l22 : K.lookup f22 = some ⟨oc22, od22, .func (PySem.W.fnOf "cut_rows" "cut_rows" (defArgs s_cut_rows) (defBody s_cut_rows) (defScope s_cut_rows) .none kV22 dc22 pm22 an22 cd22 ct22), sl22⟩) (c22 : PySem.W.codeIn K cd22 "cut_rows" = true) (k22 : PySem.W.keepIn K (.ref f22) = true)
    {f23 : Addr} {od23 an23 : Option Addr} {sl23 : Array (Option Value)} {oc23 kV23 dc23 pm23 cd23 ct23 : Value}
    (a23 : PySem.W.nsIn K mainGlobals "need_bytes" = some (some (.ref f23))) (l23 : K.lookup f23 = some ⟨oc23, od23, .func (PySem.W.fnOf "need_bytes" "need_bytes" (defArgs s_need_bytes) (defBody s_need_bytes) (defScope s_need_bytes) .none kV23 dc23 pm23 an23 cd23 ct23), sl23⟩) (c23 : PySem.W.codeIn K cd23 "need_bytes" = true) (k23 : PySem.W.keepIn K (.ref f23) = true)
    {f24 : Addr} {od24 an24 : Option Addr} {sl24 : Array (Option Value)} {oc24 kV24 dc24 pm24 cd24 ct24 : Value}
    (a24 : PySem.W.nsIn K mainGlobals "parted" = some (some (.ref f24))) (l24 : K.lookup f24 = some ⟨oc24, od24, .func (PySem.W.fnOf "parted" "parted" (defArgs s_parted) (defBody s_parted) (defScope s_parted) .none kV24 dc24 pm24 an24 cd24 ct24), sl24⟩) (c24 : PySem.W.codeIn K cd24 "parted" = true) (k24 : PySem.W.keepIn K (.ref f24) = true)
    {f25 : Addr} {od25 an25 : Option Addr} {sl25 : Array (Option Value)} {oc25 kV25 dc25 pm25 cd25 ct25 : Value}
    (a25 : PySem.W.nsIn K mainGlobals "unit_of" = some (some (.ref f25))) (l25 : K.lookup f25 = some ⟨oc25, od25, .func (PySem.W.fnOf "unit_of" "unit_of" (defArgs s_unit_of) (defBody s_unit_of) (defScope s_unit_of) .none kV25 dc25 pm25 an25 cd25 ct25), sl25⟩) (c25 : PySem.W.codeIn K cd25 "unit_of" = true) (k25 : PySem.W.keepIn K (.ref f25) = true)
    {f26 : Addr} {od26 an26 : Option Addr} {sl26 : Array (Option Value)} {oc26 kV26 dc26 pm26 cd26 ct26 : Value}
    (a26 : PySem.W.nsIn K mainGlobals "sixteens_of" = some (some (.ref f26))) (l26 : K.lookup f26 = some ⟨oc26, od26, .func (PySem.W.fnOf "sixteens_of" "sixteens_of" (defArgs s_sixteens_of) (defBody s_sixteens_of) (defScope s_sixteens_of) .none kV26 dc26 pm26 an26 cd26 ct26), sl26⟩) (c26 : PySem.W.codeIn K cd26 "sixteens_of" = true) (k26 : PySem.W.keepIn K (.ref f26) = true)
    {f27 : Addr} {od27 an27 : Option Addr} {sl27 : Array (Option Value)} {oc27 kV27 dc27 pm27 cd27 ct27 : Value}
    (a27 : PySem.W.nsIn K mainGlobals "four_of" = some (some (.ref f27))) (l27 : K.lookup f27 = some ⟨oc27, od27, .func (PySem.W.fnOf "four_of" "four_of" (defArgs s_four_of) (defBody s_four_of) (defScope s_four_of) .none kV27 dc27 pm27 an27 cd27 ct27), sl27⟩) (c27 : PySem.W.codeIn K cd27 "four_of" = true) (k27 : PySem.W.keepIn K (.ref f27) = true)
    {f28 : Addr} {od28 an28 : Option Addr} {sl28 : Array (Option Value)} {oc28 kV28 dc28 pm28 cd28 ct28 : Value}
    (a28 : PySem.W.nsIn K mainGlobals "sixty_of" = some (some (.ref f28))) (l28 : K.lookup f28 = some ⟨oc28, od28, .func (PySem.W.fnOf "sixty_of" "sixty_of" (defArgs s_sixty_of) (defBody s_sixty_of) (defScope s_sixty_of) .none kV28 dc28 pm28 an28 cd28 ct28), sl28⟩) (c28 : PySem.W.codeIn K cd28 "sixty_of" = true) (k28 : PySem.W.keepIn K (.ref f28) = true)
    {f29 : Addr} {od29 an29 : Option Addr} {sl29 : Array (Option Value)} {oc29 kV29 dc29 pm29 cd29 ct29 : Value}
    (a29 : PySem.W.nsIn K mainGlobals "bytes_written" = some (some (.ref f29))) (l29 : K.lookup f29 = some ⟨oc29, od29, .func (PySem.W.fnOf "bytes_written" "bytes_written" (defArgs s_bytes_written) (defBody s_bytes_written) (defScope s_bytes_written) .none kV29 dc29 pm29 an29 cd29 ct29), sl29⟩) (c29 : PySem.W.codeIn K cd29 "bytes_written" = true) (k29 : PySem.W.keepIn K (.ref f29) = true)
    {f30 : Addr} {od30 an30 : Option Addr} {sl30 : Array (Option Value)} {oc30 kV30 dc30 pm30 cd30 ct30 : Value}
    (a30 : PySem.W.nsIn K mainGlobals "are_among" = some (some (.ref f30))) (l30 : K.lookup f30 = some ⟨oc30, od30, .func (PySem.W.fnOf "are_among" "are_among" (defArgs s_are_among) (defBody s_are_among) (defScope s_are_among) .none kV30 dc30 pm30 an30 cd30 ct30), sl30⟩) (c30 : PySem.W.codeIn K cd30 "are_among" = true) (k30 : PySem.W.keepIn K (.ref f30) = true)
    {f31 : Addr} {od31 an31 : Option Addr} {sl31 : Array (Option Value)} {oc31 kV31 dc31 pm31 cd31 ct31 : Value}
    (a31 : PySem.W.nsIn K mainGlobals "is_header_name" = some (some (.ref f31))) (l31 : K.lookup f31 = some ⟨oc31, od31, .func (PySem.W.fnOf "is_header_name" "is_header_name" (defArgs s_is_header_name) (defBody s_is_header_name) (defScope s_is_header_name) .none kV31 dc31 pm31 an31 cd31 ct31), sl31⟩) (c31 : PySem.W.codeIn K cd31 "is_header_name" = true) (k31 : PySem.W.keepIn K (.ref f31) = true)
    {f32 : Addr} {od32 an32 : Option Addr} {sl32 : Array (Option Value)} {oc32 kV32 dc32 pm32 cd32 ct32 : Value}
    (a32 : PySem.W.nsIn K mainGlobals "is_value" = some (some (.ref f32))) (l32 : K.lookup f32 = some ⟨oc32, od32, .func (PySem.W.fnOf "is_value" "is_value" (defArgs s_is_value) (defBody s_is_value) (defScope s_is_value) .none kV32 dc32 pm32 an32 cd32 ct32), sl32⟩) (c32 : PySem.W.codeIn K cd32 "is_value" = true) (k32 : PySem.W.keepIn K (.ref f32) = true)
    {f33 : Addr} {od33 an33 : Option Addr} {sl33 : Array (Option Value)} {oc33 kV33 dc33 pm33 cd33 ct33 : Value}
    (a33 : PySem.W.nsIn K mainGlobals "words_in" = some (some (.ref f33))) (l33 : K.lookup f33 = some ⟨oc33, od33, .func (PySem.W.fnOf "words_in" "words_in" (defArgs s_words_in) (defBody s_words_in) (defScope s_words_in) .none kV33 dc33 pm33 an33 cd33 ct33), sl33⟩) (c33 : PySem.W.codeIn K cd33 "words_in" = true) (k33 : PySem.W.keepIn K (.ref f33) = true)
    {f34 : Addr} {od34 an34 : Option Addr} {sl34 : Array (Option Value)} {oc34 kV34 dc34 pm34 cd34 ct34 : Value}
    (a34 : PySem.W.nsIn K mainGlobals "folded" = some (some (.ref f34))) (l34 : K.lookup f34 = some ⟨oc34, od34, .func (PySem.W.fnOf "folded" "folded" (defArgs s_folded) (defBody s_folded) (defScope s_folded) .none kV34 dc34 pm34 an34 cd34 ct34), sl34⟩) (c34 : PySem.W.codeIn K cd34 "folded" = true) (k34 : PySem.W.keepIn K (.ref f34) = true)
    {f35 : Addr} {od35 an35 : Option Addr} {sl35 : Array (Option Value)} {oc35 kV35 dc35 pm35 cd35 ct35 : Value}
    (a35 : PySem.W.nsIn K mainGlobals "rows_written" = some (some (.ref f35))) (l35 : K.lookup f35 = some ⟨oc35, od35, .func (PySem.W.fnOf "rows_written" "rows_written" (defArgs s_rows_written) (defBody s_rows_written) (defScope s_rows_written) .none kV35 dc35 pm35 an35 cd35 ct35), sl35⟩) (c35 : PySem.W.codeIn K cd35 "rows_written" = true) (k35 : PySem.W.keepIn K (.ref f35) = true)
    {f36 : Addr} {od36 an36 : Option Addr} {sl36 : Array (Option Value)} {oc36 kV36 dc36 pm36 cd36 ct36 : Value}
    (a36 : PySem.W.nsIn K mainGlobals "body_written" = some (some (.ref f36))) (l36 : K.lookup f36 = some ⟨oc36, od36, .func (PySem.W.fnOf "body_written" "body_written" (defArgs s_body_written) (defBody s_body_written) (defScope s_body_written) .none kV36 dc36 pm36 an36 cd36 ct36), sl36⟩) (c36 : PySem.W.codeIn K cd36 "body_written" = true) (k36 : PySem.W.keepIn K (.ref f36) = true)
    {f37 : Addr} {od37 an37 : Option Addr} {sl37 : Array (Option Value)} {oc37 kV37 dc37 pm37 cd37 ct37 : Value}
    (a37 : PySem.W.nsIn K mainGlobals "piece_rows" = some (some (.ref f37))) (l37 : K.lookup f37 = some ⟨oc37, od37, .func (PySem.W.fnOf "piece_rows" "piece_rows" (defArgs s_piece_rows) (defBody s_piece_rows) (defScope s_piece_rows) .none kV37 dc37 pm37 an37 cd37 ct37), sl37⟩) (c37 : PySem.W.codeIn K cd37 "piece_rows" = true) (k37 : PySem.W.keepIn K (.ref f37) = true)
    {f38 : Addr} {od38 an38 : Option Addr} {sl38 : Array (Option Value)} {oc38 kV38 dc38 pm38 cd38 ct38 : Value}
    (a38 : PySem.W.nsIn K mainGlobals "_law_word_of" = some (some (.ref f38))) (l38 : K.lookup f38 = some ⟨oc38, od38, .func (PySem.W.fnOf "_law_word_of" "_law_word_of" (defArgs s__law_word_of) (defBody s__law_word_of) (defScope s__law_word_of) .none kV38 dc38 pm38 an38 cd38 ct38), sl38⟩) (c38 : PySem.W.codeIn K cd38 "_law_word_of" = true) (k38 : PySem.W.keepIn K (.ref f38) = true)
    {f39 : Addr} {od39 an39 : Option Addr} {sl39 : Array (Option Value)} {oc39 kV39 dc39 pm39 cd39 ct39 : Value}
    (a39 : PySem.W.nsIn K mainGlobals "_law_refused" = some (some (.ref f39))) (l39 : K.lookup f39 = some ⟨oc39, od39, .func (PySem.W.fnOf "_law_refused" "_law_refused" (defArgs s__law_refused) (defBody s__law_refused) (defScope s__law_refused) .none kV39 dc39 pm39 an39 cd39 ct39), sl39⟩) (c39 : PySem.W.codeIn K cd39 "_law_refused" = true) (k39 : PySem.W.keepIn K (.ref f39) = true)
    {f40 : Addr} {od40 an40 : Option Addr} {sl40 : Array (Option Value)} {oc40 kV40 dc40 pm40 cd40 ct40 : Value}
    (a40 : PySem.W.nsIn K mainGlobals "law" = some (some (.ref f40))) (l40 : K.lookup f40 = some ⟨oc40, od40, .func (PySem.W.fnOf "law" "law" (defArgs s_law) (defBody s_law) (defScope s_law) .none kV40 dc40 pm40 an40 cd40 ct40), sl40⟩) (c40 : PySem.W.codeIn K cd40 "law" = true) (k40 : PySem.W.keepIn K (.ref f40) = true)
    (z_ValueError : PySem.W.nsIn K mainGlobals "ValueError" = some none)
    (z_all : PySem.W.nsIn K mainGlobals "all" = some none)
    (z_any : PySem.W.nsIn K mainGlobals "any" = some none)
    (z_bool : PySem.W.nsIn K mainGlobals "bool" = some none)
    (z_enumerate : PySem.W.nsIn K mainGlobals "enumerate" = some none)
    (z_int : PySem.W.nsIn K mainGlobals "int" = some none)
    (z_isinstance : PySem.W.nsIn K mainGlobals "isinstance" = some none)
    (z_len : PySem.W.nsIn K mainGlobals "len" = some none)
    (z_list : PySem.W.nsIn K mainGlobals "list" = some none)
    (z_ord : PySem.W.nsIn K mainGlobals "ord" = some none)
    (z_range : PySem.W.nsIn K mainGlobals "range" = some none)
    (z_str : PySem.W.nsIn K mainGlobals "str" = some none)
    (z_sum : PySem.W.nsIn K mainGlobals "sum" = some none)
    {C_BadBody : Addr} (n_BadBody : PySem.W.nsIn K mainGlobals "BadBody" = some (some (.ref C_BadBody)))
    {C_BadBytes : Addr} (n_BadBytes : PySem.W.nsIn K mainGlobals "BadBytes" = some (some (.ref C_BadBytes)))
    {C_BadHeader : Addr} (n_BadHeader : PySem.W.nsIn K mainGlobals "BadHeader" = some (some (.ref C_BadHeader)))
    {C_BadName : Addr} (n_BadName : PySem.W.nsIn K mainGlobals "BadName" = some (some (.ref C_BadName)))
    {C_BadPiece : Addr} (n_BadPiece : PySem.W.nsIn K mainGlobals "BadPiece" = some (some (.ref C_BadPiece)))
    {C_BadRow : Addr} (n_BadRow : PySem.W.nsIn K mainGlobals "BadRow" = some (some (.ref C_BadRow)))
    {C_BadValue : Addr} (n_BadValue : PySem.W.nsIn K mainGlobals "BadValue" = some (some (.ref C_BadValue)))
    {C_Header : Addr} (n_Header : PySem.W.nsIn K mainGlobals "Header" = some (some (.ref C_Header)))
    {C_HouseError : Addr} (n_HouseError : PySem.W.nsIn K mainGlobals "HouseError" = some (some (.ref C_HouseError)))
    {C_Piece : Addr} (n_Piece : PySem.W.nsIn K mainGlobals "Piece" = some (some (.ref C_Piece)))
    {C_TooLong : Addr} (n_TooLong : PySem.W.nsIn K mainGlobals "TooLong" = some (some (.ref C_TooLong)))
    {f7 : Addr} {od7 an7 : Option Addr} {sl7 : Array (Option Value)} {oc7 kV7 dc7 pm7 cd7 ct7 : Value}
    (a7 : PySem.W.findIn K (.ref C_Header) "__init__" = some (some (.ref f7))) (l7 : K.lookup f7 = some ⟨oc7, od7, .func (PySem.W.fnOf "__init__" "Header.__init__" (defArgs s_Header___init__) (defBody s_Header___init__) (defScope s_Header___init__) .none kV7 dc7 pm7 an7 cd7 ct7), sl7⟩) (c7 : PySem.W.codeIn K cd7 "Header.__init__" = true) (k7 : PySem.W.keepIn K (.ref f7) = true)
    {f9 T9 : Addr} {od9 an9 : Option Addr} {sl9 : Array (Option Value)} {oc9 kV9 dc9 pm9 cd9 ct9 : Value}
    (a9 : PySem.W.findIn K (.ref C_Piece) "__init__" = some (some (.ref f9))) (l9 : K.lookup f9 = some ⟨oc9, od9, .func (PySem.W.fnOf "__init__" "Piece.__init__" (defArgs s_Piece___init__) (defBody s_Piece___init__) (defScope s_Piece___init__) (.ref T9) kV9 dc9 pm9 an9 cd9 ct9), sl9⟩) (c9 : PySem.W.codeIn K cd9 "Piece.__init__" = true) (k9 : PySem.W.keepIn K (.ref f9) = true) (lT9 : dflB K T9 2 = true)
    {f17 : Addr} {od17 an17 : Option Addr} {sl17 : Array (Option Value)} {oc17 kV17 dc17 pm17 cd17 ct17 : Value}
    (a17 : PySem.W.findIn K (.ref C_Header) "value" = some (some (.ref f17))) (l17 : K.lookup f17 = some ⟨oc17, od17, .func (PySem.W.fnOf "value" "Header.value" (defArgs s_Header_value) (defBody s_Header_value) (defScope s_Header_value) .none kV17 dc17 pm17 an17 cd17 ct17), sl17⟩) (c17 : PySem.W.codeIn K cd17 "Header.value" = true) (k17 : PySem.W.keepIn K (.ref f17) = true)
    (m_Header_value : mthB K "Header" "value" f17 = true)
    (mk_Header : mkB K "Header" f7 = true)
    (mk_Piece : mkB K "Piece" f9 = true)
    (ii_Header : iiB K "Header" ci_Header = true)
    (ii_Piece : iiB K "Piece" ci_Piece = true)
    (it_list : itB K .list ct_list = true)
    (cl_Header : clsB K "Header" = true)
    (cl_Piece : clsB K "Piece" = true)
    (na_Header_known : naB K "Header" "known" = true)
    (na_Header_name : naB K "Header" "name" = true)
    (na_Piece_headers : naB K "Piece" "headers" = true)
    (na_Piece_pieces : naB K "Piece" "pieces" = true)
    (na_Piece_row : naB K "Piece" "row" = true)
    (xk_BadBytes : xK K "BadBytes" = true)
    (xk_BadName : xK K "BadName" = true)
    (xk_BadPiece : xK K "BadPiece" = true)
    (xk_BadValue : xK K "BadValue" = true)
    (xk_TooLong : xK K "TooLong" = true)
    (ki_BadBody : kiB K "BadBody" cs_BadBody = true) (ke_BadBody : (cs_BadBody.all fun x => eK K x.1) = true)
    (ki_BadBytes : kiB K "BadBytes" cs_BadBytes = true) (ke_BadBytes : (cs_BadBytes.all fun x => eK K x.1) = true)
    (ki_BadHeader : kiB K "BadHeader" cs_BadHeader = true) (ke_BadHeader : (cs_BadHeader.all fun x => eK K x.1) = true)
    (ki_BadName : kiB K "BadName" cs_BadName = true) (ke_BadName : (cs_BadName.all fun x => eK K x.1) = true)
    (ki_BadPiece : kiB K "BadPiece" cs_BadPiece = true) (ke_BadPiece : (cs_BadPiece.all fun x => eK K x.1) = true)
    (ki_BadRow : kiB K "BadRow" cs_BadRow = true) (ke_BadRow : (cs_BadRow.all fun x => eK K x.1) = true)
    (ki_BadValue : kiB K "BadValue" cs_BadValue = true) (ke_BadValue : (cs_BadValue.all fun x => eK K x.1) = true)
    (ki_TooLong : kiB K "TooLong" cs_TooLong = true) (ke_TooLong : (cs_TooLong.all fun x => eK K x.1) = true)
    (ki_ValueError : kiB K "ValueError" cs_ValueError = true) (ke_ValueError : (cs_ValueError.all fun x => eK K x.1) = true)
    (em_HouseError : emB K "HouseError" es_HouseError = true)
    {t_END : Tok} (y_END : PySem.W.nsIn K mainGlobals "END" = some (some (.int 10 t_END)))
    {t_FIRST_SIGN : Tok} (y_FIRST_SIGN : PySem.W.nsIn K mainGlobals "FIRST_SIGN" = some (some (.int 32 t_FIRST_SIGN)))
    {t_LAST_SIGN : Tok} (y_LAST_SIGN : PySem.W.nsIn K mainGlobals "LAST_SIGN" = some (some (.int 126 t_LAST_SIGN)))
    {t_LEFT_OUT : Tok} (y_LEFT_OUT : PySem.W.nsIn K mainGlobals "LEFT_OUT" = some (some (.int 37 t_LEFT_OUT)))
    {t_MOST_DEEP : Tok} (y_MOST_DEEP : PySem.W.nsIn K mainGlobals "MOST_DEEP" = some (some (.int 4 t_MOST_DEEP)))
    {t_MOST_LETTERS : Tok} (y_MOST_LETTERS : PySem.W.nsIn K mainGlobals "MOST_LETTERS" = some (some (.int 8 t_MOST_LETTERS)))
    {t_MOST_PIECES : Tok} (y_MOST_PIECES : PySem.W.nsIn K mainGlobals "MOST_PIECES" = some (some (.int 8 t_MOST_PIECES)))
    {t_MOST_ROW : Tok} (y_MOST_ROW : PySem.W.nsIn K mainGlobals "MOST_ROW" = some (some (.int 60 t_MOST_ROW)))
    {t_MOST_WORDS : Tok} (y_MOST_WORDS : PySem.W.nsIn K mainGlobals "MOST_WORDS" = some (some (.int 3 t_MOST_WORDS)))
    {t_ROW_END : Tok} (y_ROW_END : PySem.W.nsIn K mainGlobals "ROW_END" = some (some (.int 10 t_ROW_END)))
    (y_SIGNS : ∃ t, mg "SIGNS" = some (.str (tS t_01234567_b361) t))
    {t_SIXTEEN : Tok} (y_SIXTEEN : PySem.W.nsIn K mainGlobals "SIXTEEN" = some (some (.str (tS t_01234567_37b5) t_SIXTEEN)))
    (y_SIXTY : ∃ t, mg "SIXTY" = some (.str (tS t_ABCDEFGH_2ddd) t))
    {t_SMALL : Tok} (y_SMALL : PySem.W.nsIn K mainGlobals "SMALL" = some (some (.str (tS t_abcdefgh_50bd) t_SMALL))) :
    ∃ fd : FuncData, (∀ (s : Shared) (v : Value), BindsTo s fd ⟨[v], []⟩ [("_law_script", v)]) ∧ ∀ base : Heap, K.In base → base.Ns mainGlobals mg → FnOk l.prog w K mg base (L2.CX l.prog w) 30 fa fd ["_law_script"] (spD (clK K) K 1 d_law) := by
  have e := hfa.symm.trans (PySem.W.mg_of X G a40)
  cases e
  exact ⟨PySem.W.fnOf "law" "law" (defArgs s_law) (defBody s_law) (defScope s_law) .none kV40 dc40 pm40 an40 cd40 ct40, fun s v => .of_eq rfl, fun base _ _ => ok_law (mkFx X G a0 l0 c0 k0 a1 l1 c1 k1 a2 l2 c2 k2 a3 l3 c3 k3 a4 l4 c4 k4 a5 l5 c5 k5 a6 l6 c6 k6 a8 l8 c8 k8 a10 l10 c10 k10 a11 l11 c11 k11 a12 l12 c12 k12 a13 l13 c13 k13 a14 l14 c14 k14 a15 l15 c15 k15 a16 l16 c16 k16 a18 l18 c18 k18 a19 l19 c19 k19 a20 l20 c20 k20 a21 l21 c21 k21 a22 l22 c22 k22 a23 l23 c23 k23 a24 l24 c24 k24 a25 l25 c25 k25 a26 l26 c26 k26 a27 l27 c27 k27 a28 l28 c28 k28 a29 l29 c29 k29 a30 l30 c30 k30 a31 l31 c31 k31 a32 l32 c32 k32 a33 l33 c33 k33 a34 l34 c34 k34 a35 l35 c35 k35 a36 l36 c36 k36 a37 l37 c37 k37 a38 l38 c38 k38 a39 l39 c39 k39 a40 l40 c40 k40 z_ValueError z_all z_any z_bool z_enumerate z_int z_isinstance z_len z_list z_ord z_range z_str z_sum n_BadBody n_BadBytes n_BadHeader n_BadName n_BadPiece n_BadRow n_BadValue n_Header n_HouseError n_Piece n_TooLong a7 l7 c7 k7 a9 l9 c9 k9 lT9 a17 l17 c17 k17 m_Header_value mk_Header mk_Piece ii_Header ii_Piece it_list cl_Header cl_Piece na_Header_known na_Header_name na_Piece_headers na_Piece_pieces na_Piece_row xk_BadBytes xk_BadName xk_BadPiece xk_BadValue xk_TooLong ki_BadBody ke_BadBody ki_BadBytes ke_BadBytes ki_BadHeader ke_BadHeader ki_BadName ke_BadName ki_BadPiece ke_BadPiece ki_BadRow ke_BadRow ki_BadValue ke_BadValue ki_TooLong ke_TooLong ki_ValueError ke_ValueError em_HouseError y_END y_FIRST_SIGN y_LAST_SIGN y_LEFT_OUT y_MOST_DEEP y_MOST_LETTERS y_MOST_PIECES y_MOST_ROW y_MOST_WORDS y_ROW_END y_SIGNS y_SIXTEEN y_SIXTY y_SMALL)⟩
end Lk21
open PySem PySem.W PyProof.Rows
set_option maxHeartbeats 0 in
theorem PySem.Challenge.cw_letterhouse_k21_borders_round_pieces_holds : PySem.Challenge.rw_letterhouse_k21_borders_round_pieces.Holds := by
  refine Z.hd_k21 ?_
  k_fill
  refine G.walk_X (l := PySem.Challenge.rw_letterhouse_k21_borders_round_pieces) (n := 63) (k := 30) (x := "_law_script") (CX := fun w => L2.CX PySem.Challenge.rw_letterhouse_k21_borders_round_pieces.prog w) (sp := fun w => (fun K => G.spD (G.clK K) K 1 Lk21.d_law) _) rfl (by decide) rfl ⟨rfl, by decide, by decide⟩ (fun w h Y => PySem.W.kIn_of Y) ?F (fun _ _ a ns hl _ hS => G.law_sp hS (Lk21.law_true ns hl)) (fun _ _ _ _ _ h => G.law_cx h)
  case F =>
    intro w mg fa h KX GG XX hmg
    refine' Lk21.end_mk KX GG hmg ?a0 ?l0 ?c0 ?k0 ?a1 ?l1 ?c1 ?k1 ?a2 ?l2 ?c2 ?k2 ?a3 ?l3 ?c3 ?k3 ?a4 ?l4 ?c4 ?k4 ?a5 ?l5 ?c5 ?k5 ?a6 ?l6 ?c6 ?k6 ?a8 ?l8 ?c8 ?k8 ?a10 ?l10 ?c10 ?k10 ?a11 ?l11 ?c11 ?k11 ?a12 ?l12 ?c12 ?k12 ?a13 ?l13 ?c13 ?k13 ?a14 ?l14 ?c14 ?k14 ?a15 ?l15 ?c15 ?k15 ?a16 ?l16 ?c16 ?k16 ?a18 ?l18 ?c18 ?k18 ?a19 ?l19 ?c19 ?k19 ?a20 ?l20 ?c20 ?k20 ?a21 ?l21 ?c21 ?k21 ?a22 ?l22 ?c22 ?k22 ?a23 ?l23 ?c23 ?k23 ?a24 ?l24 ?c24 ?k24 ?a25 ?l25 ?c25 ?k25 ?a26 ?l26 ?c26 ?k26 ?a27 ?l27 ?c27 ?k27 ?a28 ?l28 ?c28 ?k28 ?a29 ?l29 ?c29 ?k29 ?a30 ?l30 ?c30 ?k30 ?a31 ?l31 ?c31 ?k31 ?a32 ?l32 ?c32 ?k32 ?a33 ?l33 ?c33 ?k33 ?a34 ?l34 ?c34 ?k34 ?a35 ?l35 ?c35 ?k35 ?a36 ?l36 ?c36 ?k36 ?a37 ?l37 ?c37 ?k37 ?a38 ?l38 ?c38 ?k38 ?a39 ?l39 ?c39 ?k39 ?a40 ?l40 ?c40 ?k40 ?z_ValueError ?z_all ?z_any ?z_bool ?z_enumerate ?z_int ?z_isinstance ?z_len ?z_list ?z_ord ?z_range ?z_str ?z_sum ?n_BadBody ?n_BadBytes ?n_BadHeader ?n_BadName ?n_BadPiece ?n_BadRow ?n_BadValue ?n_Header ?n_HouseError ?n_Piece ?n_TooLong ?a7 ?l7 ?c7 ?k7 ?a9 ?l9 ?c9 ?k9 ?lT9 ?a17 ?l17 ?c17 ?k17 ?m_Header_value ?mk_Header ?mk_Piece ?ii_Header ?ii_Piece ?it_list ?cl_Header ?cl_Piece ?na_Header_known ?na_Header_name ?na_Piece_headers ?na_Piece_pieces ?na_Piece_row ?xk_BadBytes ?xk_BadName ?xk_BadPiece ?xk_BadValue ?xk_TooLong ?ki_BadBody ?ke_BadBody ?ki_BadBytes ?ke_BadBytes ?ki_BadHeader ?ke_BadHeader ?ki_BadName ?ke_BadName ?ki_BadPiece ?ke_BadPiece ?ki_BadRow ?ke_BadRow ?ki_BadValue ?ke_BadValue ?ki_TooLong ?ke_TooLong ?ki_ValueError ?ke_ValueError ?em_HouseError ?y_END ?y_FIRST_SIGN ?y_LAST_SIGN ?y_LEFT_OUT ?y_MOST_DEEP ?y_MOST_LETTERS ?y_MOST_PIECES ?y_MOST_ROW ?y_MOST_WORDS ?y_ROW_END (_root_.G.loose_str XX (by repeat (first | exact List.Mem.head _ | apply List.Mem.tail))) ?y_SIXTEEN (_root_.G.loose_str XX (by repeat (first | exact List.Mem.head _ | apply List.Mem.tail))) ?y_SMALL
    (case a0 => k_is); (case l0 => k_is); (case c0 => k_is); (case k0 => k_is); (case a1 => k_is); (case l1 => k_is); (case c1 => k_is); (case k1 => k_is); (case a2 => k_is); (case l2 => k_is); (case c2 => k_is); (case k2 => k_is); (case a3 => k_is); (case l3 => k_is); (case c3 => k_is); (case k3 => k_is); (case a4 => k_is); (case l4 => k_is); (case c4 => k_is); (case k4 => k_is); (case a5 => k_is); (case l5 => k_is); (case c5 => k_is); (case k5 => k_is); (case a6 => k_is); (case l6 => k_is); (case c6 => k_is); (case k6 => k_is); (case a8 => k_is); (case l8 => k_is); (case c8 => k_is); (case k8 => k_is); (case a10 => k_is); (case l10 => k_is); (case c10 => k_is); (case k10 => k_is); (case a11 => k_is); (case l11 => k_is); (case c11 => k_is); (case k11 => k_is); (case a12 => k_is); (case l12 => k_is); (case c12 => k_is); (case k12 => k_is); (case a13 => k_is); (case l13 => k_is); (case c13 => k_is); (case k13 => k_is); (case a14 => k_is); (case l14 => k_is); (case c14 => k_is); (case k14 => k_is); (case a15 => k_is); (case l15 => k_is); (case c15 => k_is); (case k15 => k_is); (case a16 => k_is); (case l16 => k_is); (case c16 => k_is); (case k16 => k_is); (case a18 => k_is); (case l18 => k_is); (case c18 => k_is); (case k18 => k_is); (case a19 => k_is); (case l19 => k_is); (case c19 => k_is); (case k19 => k_is); (case a20 => k_is); (case l20 => k_is); (case c20 => k_is); (case k20 => k_is); (case a21 => k_is); (case l21 => k_is); (case c21 => k_is); (case k21 => k_is); (case a22 => k_is); (case l22 => k_is); (case c22 => k_is); (case k22 => k_is); (case a23 => k_is); (case l23 => k_is); (case c23 => k_is); (case k23 => k_is); (case a24 => k_is); (case l24 => k_is); (case c24 => k_is); (case k24 => k_is); (case a25 => k_is); (case l25 => k_is); (case c25 => k_is); (case k25 => k_is); (case a26 => k_is); (case l26 => k_is); (case c26 => k_is); (case k26 => k_is); (case a27 => k_is); (case l27 => k_is); (case c27 => k_is); (case k27 => k_is); (case a28 => k_is); (case l28 => k_is); (case c28 => k_is); (case k28 => k_is); (case a29 => k_is); (case l29 => k_is); (case c29 => k_is); (case k29 => k_is); (case a30 => k_is); (case l30 => k_is); (case c30 => k_is); (case k30 => k_is); (case a31 => k_is); (case l31 => k_is); (case c31 => k_is); (case k31 => k_is); (case a32 => k_is); (case l32 => k_is); (case c32 => k_is); (case k32 => k_is); (case a33 => k_is); (case l33 => k_is); (case c33 => k_is); (case k33 => k_is); (case a34 => k_is); (case l34 => k_is); (case c34 => k_is); (case k34 => k_is); (case a35 => k_is); (case l35 => k_is); (case c35 => k_is); (case k35 => k_is); (case a36 => k_is); (case l36 => k_is); (case c36 => k_is); (case k36 => k_is); (case a37 => k_is); (case l37 => k_is); (case c37 => k_is); (case k37 => k_is); (case a38 => k_is); (case l38 => k_is); (case c38 => k_is); (case k38 => k_is); (case a39 => k_is); (case l39 => k_is); (case c39 => k_is); (case k39 => k_is); (case a40 => k_is); (case l40 => k_is); (case c40 => k_is); (case k40 => k_is); (case z_ValueError => k_is); (case z_all => k_is); (case z_any => k_is); (case z_bool => k_is); (case z_enumerate => k_is); (case z_int => k_is); (case z_isinstance => k_is); (case z_len => k_is); (case z_list => k_is); (case z_ord => k_is); (case z_range => k_is); (case z_str => k_is); (case z_sum => k_is); (case n_BadBody => k_is); (case n_BadBytes => k_is); (case n_BadHeader => k_is); (case n_BadName => k_is); (case n_BadPiece => k_is); (case n_BadRow => k_is); (case n_BadValue => k_is); (case n_Header => k_is); (case n_HouseError => k_is); (case n_Piece => k_is); (case n_TooLong => k_is); (case a7 => k_is); (case l7 => k_is); (case c7 => k_is); (case k7 => k_is); (case a9 => k_is); (case l9 => k_is); (case c9 => k_is); (case k9 => k_is); (case a17 => k_is); (case l17 => k_is); (case c17 => k_is); (case k17 => k_is); (case y_END => k_is); (case y_FIRST_SIGN => k_is); (case y_LAST_SIGN => k_is); (case y_LEFT_OUT => k_is); (case y_MOST_DEEP => k_is); (case y_MOST_LETTERS => k_is); (case y_MOST_PIECES => k_is); (case y_MOST_ROW => k_is); (case y_MOST_WORDS => k_is); (case y_ROW_END => k_is); (case y_SIXTEEN => k_is); (case y_SMALL => k_is); (case lT9 => kernel_rfl); (case m_Header_value => kernel_rfl); (case mk_Header => kernel_rfl); (case mk_Piece => kernel_rfl); (case ii_Header => kernel_rfl); (case ii_Piece => kernel_rfl); (case it_list => kernel_rfl); (case cl_Header => kernel_rfl); (case cl_Piece => kernel_rfl); (case na_Header_known => kernel_rfl); (case na_Header_name => kernel_rfl); (case na_Piece_headers => kernel_rfl); (case na_Piece_pieces => kernel_rfl); (case na_Piece_row => kernel_rfl); (case xk_BadBytes => kernel_rfl); (case xk_BadName => kernel_rfl); (case xk_BadPiece => kernel_rfl); (case xk_BadValue => kernel_rfl); (case xk_TooLong => kernel_rfl); (case ki_BadBody => kernel_rfl); (case ke_BadBody => kernel_rfl); (case ki_BadBytes => kernel_rfl); (case ke_BadBytes => kernel_rfl); (case ki_BadHeader => kernel_rfl); (case ke_BadHeader => kernel_rfl); (case ki_BadName => kernel_rfl); (case ke_BadName => kernel_rfl); (case ki_BadPiece => kernel_rfl); (case ke_BadPiece => kernel_rfl); (case ki_BadRow => kernel_rfl); (case ke_BadRow => kernel_rfl); (case ki_BadValue => kernel_rfl); (case ke_BadValue => kernel_rfl); (case ki_TooLong => kernel_rfl); (case ke_TooLong => kernel_rfl); (case ki_ValueError => kernel_rfl); (case ke_ValueError => kernel_rfl); (case em_HouseError => kernel_rfl)
