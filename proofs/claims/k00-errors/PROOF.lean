import PyProof.Rows.All
import Wide.All
import OpenK.AllK
import Wide.FinOn
import HandS.WordsList
import HandS.Exc
import HandS.TryMany
import HandS.Comp
import HandS.NoneIn
import HandS.Iter
import HandS.Flow
import HandS.Zip
import HandS.IsInst
import HandS.Wide
import HandS.TupAny
import HandS.Deep
import HandS.Style
import HandS.TupLe
import HandS.ExcOwn
import HandS.ExcField
import KE.KExcSuper
import HandS.ExcInit
import HandS.HotCalls
import HandS.ExcIs
import KE.KExcIs
import HandS.Defaults
import HandS.Ends
import HandS.HeadHook1
import HandS.HeadHook2
import HandS.Head2
import HandS.HeadEnd
import PySem.Challenge.RW_spacetrue_k00_errors_and_limits
-- SD1
set_option Elab.async false
set_option linter.all false
set_option maxRecDepth 100000
namespace SD
open PySem L2
/-! data, cells, stores -/
inductive D where
  | non | bl (b : Bool) | int (i : Int) | str (x : Str) | tup (xs : List D)
  | lref (k : Nat) | fn (n : Str) | scr (ns : List Int) | exc (c : Str) (fs : List (Str × D))
inductive Cell where
  | lst (xs : List D) | dct (kvs : List (D × D))
abbrev Store := List Cell
abbrev Env := List (Option D)
structure Exn where
  cls : Str
  fs : List (Str × D)
abbrev QV := D → Store → Prop
abbrev QX := Exn → Store → Prop
abbrev QL := List D → Store → Prop
abbrev QB := Bool → Store → Prop
abbrev QN := Env → Store → Prop
/-- readings over data: of an expression, a test, a walked thing, a target, a statement -/
abbrev SE := Env → Store → QX → QV → Prop
abbrev ST := Env → Store → QX → QB → Prop
abbrev SI := Env → Store → QX → (List D → (Store → Prop) → Store → Prop) → Prop
abbrev SG := D → Env → Store → QX → QN → Prop
abbrev SpD := List D → Store → QX → QV → Prop
structure DEnds where
  nx : QN
  rt : QV
  ex : Exn → Env → Store → Prop
  bk : QN := fun _ _ => False
  ct : QN := fun _ _ => False
abbrev SS := DEnds → Env → Store → Prop
structure FnD where
  n : Nat
  sp : SpD
structure Tab where
  sp : Str → Option FnD
  glob : Str → Option D
  exc : Str → Option (List Str)
  isa : Str → Str → Bool
  kin : Str → Option (List Str × List Str)

abbrev b2i (b : Bool) : Int := PyProof.Rows.b2i b
def look (env : Env) (i : Nat) (Q : D → Prop) : Prop := match env[i]? with
  | some (some d) => Q d
  | _ => False
def cellL (S : Store) (k : Nat) (Q : List D → Prop) : Prop := match S[k]? with
  | some (.lst xs) => Q xs
  | _ => False

/-! expressions -/
def eVar (i : Nat) : SE := fun env S _ Q => look env i fun d => Q d S
def eC (d : D) : SE := fun _ S _ Q => Q d S
def eGlob (T : Tab) (x : Str) : SE := fun _ S _ Q => match T.glob x with
  | some d => Q d S
  | none => False
def eNever : SE := fun _ _ _ _ => False
def eList : List SE → Env → Store → QX → QL → Prop
  | [], _, S, _, Q => Q [] S
  | e :: es, env, S, E, Q => e env S E fun d S1 => eList es env S1 E fun ds S2 => Q (d :: ds) S2
def eTup (es : List SE) : SE := fun env S E Q => eList es env S E fun ds S1 => Q (.tup ds) S1
def eLst (es : List SE) : SE := fun env S E Q => eList es env S E fun ds S1 => Q (.lref S1.length) (S1 ++ [.lst ds])

def mulOk (i j : Int) : Prop := i.natAbs.log2 + j.natAbs.log2 < 1000000
def addD : D → D → Store → QV → Prop
  | .int i, .int j, S, Q => Q (.int (i + j)) S
  | .str a, .str b, S, Q => a.length + b.length ≤ sizeLine ∧ Q (.str (a ++ b)) S
  | .tup a, .tup b, S, Q => a.length + b.length ≤ sizeLine ∧ Q (.tup (a ++ b)) S
  | .lref a, .lref b, S, Q => cellL S a fun xs => cellL S b fun ys => xs.length + ys.length ≤ sizeLine ∧ Q (.lref S.length) (S ++ [.lst (xs ++ ys)])
  | _, _, _, _ => False
def subD : D → D → Store → QV → Prop
  | .int i, .int j, S, Q => Q (.int (i - j)) S
  | .bl a, .bl b, S, Q => Q (.int (b2i a - b2i b)) S
  | _, _, _, _ => False
def mulD : D → D → Store → QV → Prop
  | .int i, .int j, S, Q => mulOk i j ∧ Q (.int (i * j)) S
  | .lref a, .int n, S, Q => cellL S a fun xs => -(2 ^ 63) ≤ n ∧ n < 2 ^ 63 ∧ xs.length * n.toNat ≤ sizeLine ∧ Q (.lref S.length) (S ++ [.lst (List.replicate n.toNat xs).flatten])
  | _, _, _, _ => False
def fdivD : D → D → Store → QV → Prop
  | .int i, .int j, S, Q => (j ≠ 0 ∧ j.natAbs.log2 < 9000) ∧ Q (.int (i.fdiv j)) S
  | _, _, _, _ => False
def modD : D → D → Store → QV → Prop
  | .int i, .int j, S, Q => j ≠ 0 ∧ Q (.int (i.fmod j)) S
  | _, _, _, _ => False
def powD : D → D → Store → QV → Prop
  | .int i, .int j, S, Q => (0 ≤ j ∧ j ≤ 1000000 ∧ i.natAbs < 2 ^ 64) ∧ Q (.int (i ^ j.toNat)) S
  | _, _, _, _ => False
def eBin (f : D → D → Store → QV → Prop) (a b : SE) : SE := fun env S E Q => a env S E fun x S1 => b env S1 E fun y S2 => f x y S2 Q
def negD : D → Store → QV → Prop
  | .int i, S, Q => Q (.int (-i)) S
  | _, _, _ => False
def eUn (f : D → Store → QV → Prop) (a : SE) : SE := fun env S E Q => a env S E fun x S1 => f x S1 Q

/-! truth, tests -/
def truthD : D → Store → (Bool → Prop) → Prop
  | .non, _, K => K false
  | .bl b, _, K => K b
  | .int i, _, K => K (i != 0)
  | .str x, _, K => x.length ≤ sizeLine ∧ K (x.length != 0)
  | .tup xs, _, K => K (!xs.isEmpty)
  | .lref k, S, K => cellL S k fun xs => K (!xs.isEmpty)
  | _, _, _ => False
def tE (e : SE) : ST := fun env S E Q => e env S E fun x S1 => truthD x S1 fun b => Q b S1
def tNot (t : ST) : ST := fun env S E Q => t env S E fun b S1 => Q (!b) S1
def tAnd (t u : ST) : ST := fun env S E Q => t env S E fun b S1 => if b = true then u env S1 E Q else Q false S1
def tOr (t u : ST) : ST := fun env S E Q => t env S E fun b S1 => if b = true then Q true S1 else u env S1 E Q
def eNot (t : SE) : SE := fun env S E Q => t env S E fun x S1 => truthD x S1 fun b => Q (.bl (!b)) S1
def eAnd (a b : SE) : SE := fun env S E Q => a env S E fun x S1 => truthD x S1 fun k => if k = true then b env S1 E Q else Q x S1
def eOr (a b : SE) : SE := fun env S E Q => a env S E fun x S1 => truthD x S1 fun k => if k = true then Q x S1 else b env S1 E Q
def eIf (t : ST) (a b : SE) : SE := fun env S E Q => t env S E fun k S1 => if k = true then a env S1 E Q else b env S1 E Q


/-! equality of data without lists -/
def strOkB (x : Str) : Bool := PyData.strOk x
mutual
/-- data without lists, nested at most n deep -/
def okD : Nat → D → Bool
  | _, .non => true
  | _, .bl _ => true
  | _, .int _ => true
  | _, .str x => strOkB x
  | n + 1, .tup xs => okDs n xs
  | _, _ => false
def okDs : Nat → List D → Bool
  | _, [] => true
  | n, d :: ds => okD n d && okDs n ds
end
mutual
def eqD : D → D → Bool
  | .non, .non => true
  | .bl a, .bl b => a == b
  | .bl a, .int j => b2i a == j
  | .int i, .bl b => i == b2i b
  | .int i, .int j => i == j
  | .str x, .str y => x == y
  | .tup xs, .tup ys => eqDs xs ys
  | _, _ => false
def eqDs : List D → List D → Bool
  | [], [] => true
  | x :: xs, y :: ys => eqD x y && eqDs xs ys
  | _, _ => false
end

/-- x == y, by K of the answer -/
def eqK0 : D → D → Store → (Bool → Prop) → Prop
  | .lref a, .lref b, S, K => cellL S a fun xs => cellL S b fun ys => (okDs 20 xs = true ∧ okDs 20 ys = true) ∧ K (eqDs xs ys)
  | .lref a, y, S, K => cellL S a fun xs => (okDs 20 xs = true ∧ okD 20 y = true) ∧ K false
  | x, .lref b, S, K => cellL S b fun ys => (okD 20 x = true ∧ okDs 20 ys = true) ∧ K false
  | x, y, _, K => (okD 20 x = true ∧ okD 20 y = true) ∧ K (eqD x y)
def eqK : D → D → Store → (Bool → Prop) → Prop
  | .str x, .str y, _, K => K (decide (x = y))
  | x, y, S, K => eqK0 x y S K
def ltInts : List D → List D → Option Bool
  | [], [] => some false
  | [], .int _ :: _ => some true
  | .int _ :: _, [] => some false
  | .int i :: xs, .int j :: ys => if i = j then ltInts xs ys else some (decide (i < j))
  | _, _ => none
def ltK : D → D → Store → (Bool → Prop) → Prop
  | .int i, .int j, _, K => K (decide (i < j))
  | _, _, _, _ => False
def leK : D → D → Store → (Bool → Prop) → Prop
  | .int i, .int j, _, K => K (decide (i ≤ j))
  | _, _, _, _ => False
def isK : D → D → Store → (Bool → Prop) → Prop
  | .non, .non, _, K => K true
  | .bl _, .non, _, K => K false
  | .int _, .non, _, K => K false
  | .str _, .non, _, K => K false
  | .tup _, .non, _, K => K false
  | .lref _, .non, _, K => K false
  | .bl a, .bl b, _, K => K (decide (a = b))
  | _, _, _, _ => False
def flatD : D → Bool
  | .non => true
  | .bl _ => true
  | .int _ => true
  | .str _ => true
  | _ => false
/-- x in y -/
def inK : D → D → Store → (Bool → Prop) → Prop
  | x, .tup ys, _, K => (flatD x = true ∧ ys.all flatD = true) ∧ K (ys.any fun y => eqD y x)
  | x, .lref k, S, K => cellL S k fun ys => (okD 20 x = true ∧ okDs 20 ys = true) ∧ K (ys.any fun y => eqD y x)
  | .str x, .str y, _, K => K (!(Builtin.Str.occurrences y x 0 y.length 1).isEmpty)
  | _, _, _, _ => False
inductive COp where
  | eq | ne | lt | le | gt | ge | is_ | isnot | in_ | notin
def cmpK : COp → D → D → Store → (Bool → Prop) → Prop
  | .eq, x, y, S, K => eqK x y S K
  | .ne, x, y, S, K => eqK x y S fun b => K (!b)
  | .lt, x, y, S, K => ltK x y S K
  | .le, x, y, S, K => leK x y S K
  | .gt, x, y, S, K => ltK y x S K
  | .ge, x, y, S, K => leK y x S K
  | .is_, x, y, S, K => isK x y S K
  | .isnot, x, y, S, K => isK x y S fun b => K (!b)
  | .in_, x, y, S, K => inK x y S K
  | .notin, x, y, S, K => inK x y S fun b => K (!b)
def eCmp (o : COp) (a b : SE) : SE := fun env S E Q => a env S E fun x S1 => b env S1 E fun y S2 => cmpK o x y S2 fun k => Q (.bl k) S2
def eChain (o o' : COp) (a b c : SE) : SE := fun env S E Q => a env S E fun x S1 => b env S1 E fun y S2 => cmpK o x y S2 fun k =>
  if k = true then c env S2 E fun z S3 => cmpK o' y z S3 fun k' => Q (.bl k') S3 else Q (.bl false) S2

/-! subscripts, slices -/
def ixD : D → D → Store → QV → Prop
  | .tup xs, .int i, S, Q => match atI xs i with
    | some d => Q d S
    | none => False
  | .lref k, .int i, S, Q => cellL S k fun xs => match atI xs i with
    | some d => Q d S
    | none => False
  | .str z, .int i, S, Q => z.length ≤ sizeLine ∧ match atI z.cps.toList i with
    | some c => Q (.str ⟨#[c]⟩) S
    | none => False
  | _, _, _, _ => False
def eIx (a i : SE) : SE := fun env S E Q => a env S E fun x S1 => i env S1 E fun y S2 => ixD x y S2 Q
def cut (xs : List α) (lo hi : Option Int) : List α := (xs.drop (HT.sIx xs.length 0 lo)).take (HT.sIx xs.length xs.length hi - HT.sIx xs.length 0 lo)
def sliceD : D → Option Int → Option Int → Store → QV → Prop
  | .tup xs, lo, hi, S, Q => if HT.sIx xs.length 0 lo = 0 ∧ HT.sIx xs.length xs.length hi = xs.length then Q (.tup xs) S else Q (.tup (cut xs lo hi)) S
  | .lref k, lo, hi, S, Q => cellL S k fun xs => Q (.lref S.length) (S ++ [.lst (cut xs lo hi)])
  | .scr ns, lo, hi, S, Q => Q (.lref S.length) (S ++ [.lst ((cut ns lo hi).map .int)])
  | _, _, _, _, _ => False
def ePart : Option SE → Env → Store → QX → (Option Int → Store → Prop) → Prop
  | none, _, S, _, Q => Q none S
  | some e, env, S, E, Q => e env S E fun x S1 => match x with
    | .int i => Q (some i) S1
    | _ => False
def eSlice (a : SE) (lo hi : Option SE) : SE := fun env S E Q => a env S E fun x S1 => ePart lo env S1 E fun l S2 => ePart hi env S2 E fun h S3 => sliceD x l h S3 Q

/-! calls -/
def eCall (T : Tab) (f : Str) (es : List SE) : SE := fun env S E Q => match T.sp f with
  | some f => es.length = f.n ∧ eList es env S E fun ds S1 => f.sp ds S1 E Q
  | none => False
def eCallV (T : Tab) (f : SE) (es : List SE) : SE := fun env S E Q => f env S E fun x S0 => match x with
  | .fn n => (match T.sp n with
    | some f => es.length = f.n ∧ eList es env S0 E fun ds S1 => f.sp ds S1 E Q
    | none => False)
  | _ => False
def eB1 (f : D → Store → QV → Prop) (e : SE) : SE := fun env S E Q => e env S E fun x S1 => f x S1 Q
def eB2 (f : D → D → Store → QV → Prop) (a b : SE) : SE := fun env S E Q => a env S E fun x S1 => b env S1 E fun y S2 => f x y S2 Q
def lenD : D → Store → QV → Prop
  | .str x, S, Q => x.length ≤ sizeLine ∧ Q (.int x.length) S
  | .tup xs, S, Q => Q (.int xs.length) S
  | .lref k, S, Q => cellL S k fun xs => Q (.int xs.length) S
  | _, _, _ => False
def absD : D → Store → QV → Prop
  | .int i, S, Q => Q (.int (if i < 0 then -i else i)) S
  | _, _, _ => False
def tupleD : D → Store → QV → Prop
  | .tup xs, S, Q => Q (.tup xs) S
  | .lref k, S, Q => cellL S k fun xs => Q (.tup xs) S
  | _, _, _ => False
def listD : D → Store → QV → Prop
  | .tup xs, S, Q => Q (.lref S.length) (S ++ [.lst xs])
  | .lref k, S, Q => cellL S k fun xs => Q (.lref S.length) (S ++ [.lst xs])
  | _, _, _ => False
def intD : D → Store → QV → Prop
  | .int i, S, Q => Q (.int i) S
  | .bl b, S, Q => Q (.int (b2i b)) S
  | _, _, _ => False
/-- the built-in class of a value -/
def tyD : D → Option String
  | .non => some "NoneType"
  | .bl _ => some "bool"
  | .int _ => some "int"
  | .str _ => some "str"
  | .tup _ => some "tuple"
  | .lref _ => some "list"
  | _ => none
def isTy (t u : String) : Bool := t == u || (t == "bool" && u == "int")
def isaD (us : List String) : D → Store → QV → Prop := fun x S Q => match tyD x with
  | some t => Q (.bl (us.any (isTy t))) S
  | none => False
def appendD : D → D → Store → QV → Prop
  | .lref k, y, S, Q => cellL S k fun xs => xs.length < sizeLine ∧ Q .non (S.set k (.lst (xs ++ [y])))
  | _, _, _, _ => False

def eApp (o a : SE) : SE := fun env S E Q => o env S E fun x S1 => match x with
  | .lref k => a env S1 E fun y S2 => appendD (.lref k) y S2 Q
  | _ => False

mutual
def toPy : D → PyData
  | .bl b => .bool b
  | .int i => .int i
  | .str x => .str x
  | .tup xs => .tuple (toPys xs)
  | _ => .none
def toPys : List D → List PyData
  | [] => []
  | d :: ds => toPy d :: toPys ds
end
/-- repr of such data -/
def shD (p : PyData) : Prop := p.showable = true ∧ p.shown.length ≤ sizeLine
def reprD : D → Store → QV → Prop
  | .lref k, S, Q => cellL S k fun xs => (okDs 20 xs = true ∧ shD (.list (toPys xs))) ∧ Q (.str (PyData.list (toPys xs)).shown) S
  | x, S, Q => (okD 20 x = true ∧ shD (toPy x)) ∧ Q (.str (toPy x).shown) S

/-! what is walked -/
def iterD : D → Store → (List D → (Store → Prop) → Store → Prop) → Prop
  | .tup xs, S, Q => Q xs (fun _ => True) S
  | .lref k, S, Q => cellL S k fun xs => Q xs (fun S' => S'[k]? = some (.lst xs)) S
  | _, _, _ => False
def iE (e : SE) : SI := fun env S E Q => e env S E fun x S1 => iterD x S1 Q
def iRange (lo n : Int) : List D := (List.range (n - lo).toNat).map fun i => .int (lo + (i : Nat))
def iRange1 (a : SE) : SI := fun env S E Q => a env S E fun x S1 => match x with
  | .int j => (-(2 ^ 62) ≤ j ∧ j < 2 ^ 62) ∧ Q (iRange 0 j) (fun _ => True) S1
  | _ => False
def iRange2 (a b : SE) : SI := fun env S E Q => a env S E fun x S1 => b env S1 E fun y S2 => match x, y with
  | .int i, .int j => (-(2 ^ 62) ≤ i ∧ i < 2 ^ 62 ∧ -(2 ^ 62) ≤ j ∧ j < 2 ^ 62) ∧ Q (iRange i j) (fun _ => True) S2
  | _, _ => False
def pairs (xs ys : List D) : List D := List.zipWith (fun x y => .tup [x, y]) xs ys
def zipD : D → D → Store → (List D → (Store → Prop) → Store → Prop) → Prop
  | .tup xs, .tup ys, S, Q => Q (pairs xs ys) (fun _ => True) S
  | .lref j, .lref k, S, Q => cellL S j fun xs => cellL S k fun ys => Q (pairs xs ys) (fun S' => S'[j]? = some (.lst xs) ∧ S'[k]? = some (.lst ys)) S
  | _, _, _, _ => False
def iZip (a b : SE) : SI := fun env S E Q => a env S E fun x S1 => b env S1 E fun y S2 => zipD x y S2 Q

/-! targets -/
def gVar (i : Nat) : SG := fun d env S _ Q => Q (env.set i (some d)) S
def gSeq : List SG → List D → Env → Store → QX → QN → Prop
  | [], [], env, S, _, Q => Q env S
  | g :: gs, d :: ds, env, S, E, Q => g d env S E fun env1 S1 => gSeq gs ds env1 S1 E Q
  | _, _, _, _, _, _ => False
def gTup (gs : List SG) : SG := fun d env S E Q => match d with
  | .tup ds => ds.length = gs.length ∧ gSeq gs ds env S E Q
  | .lref k => cellL S k fun ds => ds.length = gs.length ∧ gSeq gs ds env S E Q
  | _ => False
def setD : D → D → D → Store → (Store → Prop) → Prop
  | .lref k, .int i, d, S, Q => cellL S k fun xs => match ixN xs.length i with
    | some j => Q (S.set k (.lst (xs.set j d)))
    | none => False
  | _, _, _, _, _ => False
def gIx (o i : SE) : SG := fun d env S E Q => o env S E fun x S1 => i env S1 E fun y S2 => setD x y d S2 fun S3 => Q env S3

/-! comprehensions -/
def wipeE (env : Env) : List Nat → Env
  | [] => env
  | v :: vs => (wipeE env vs).set v none
def noX : QX := fun _ _ => False
def compLoop (keep : Store → Prop) (g : SG) (t : ST) (e : SE) (env : Env) : List D → Store → QL → Prop
  | [], S, Q => keep S ∧ Q [] S
  | d :: ds, S, Q => keep S ∧ g d env S noX fun env1 S1 => t env1 S1 noX fun b S2 =>
    if b = true then e env1 S2 noX fun y S3 => compLoop keep g t e env ds S3 fun ys S4 => Q (y :: ys) S4 else compLoop keep g t e env ds S2 Q
def cComp (it : SI) (own : List Nat) (g : SG) (t : ST) (e : SE) : Env → Store → QX → QL → Prop := fun env S E Q =>
  it env S E fun ds keep S1 => ds.length ≤ sizeLine ∧ compLoop keep g t e (wipeE env own) ds S1 Q
def tYes : ST := fun _ S _ Q => Q true S
def eComp (it : SI) (own : List Nat) (g : SG) (t : ST) (e : SE) : SE := fun env S E Q => cComp it own g t e env S E fun ys S1 => Q (.lref S1.length) (S1 ++ [.lst ys])
def eTupC (it : SI) (own : List Nat) (g : SG) (t : ST) (e : SE) : SE := fun env S E Q => cComp it own g t e env S E fun ys S1 => Q (.tup ys) S1
/-- the truth of flat data -/
def flatT : D → Option Bool
  | .non => some false
  | .bl b => some b
  | .int i => some (i != 0)
  | _ => none
def truths : List D → Option (List Bool)
  | [] => some []
  | d :: ds => match flatT d, truths ds with
    | some b, some bs => some (b :: bs)
    | _, _ => none
def allD (ys : List D) (S : Store) (Q : QV) : Prop := match truths ys with
  | some bs => Q (.bl (bs.all id)) S
  | none => False
def anyD (ys : List D) (S : Store) (Q : QV) : Prop := match truths ys with
  | some bs => Q (.bl (bs.any id)) S
  | none => False
def eAllC (it : SI) (own : List Nat) (g : SG) (t : ST) (e : SE) : SE := fun env S E Q => cComp it own g t e env S E fun ys S1 => allD ys S1 Q
def eAnyC (it : SI) (own : List Nat) (g : SG) (t : ST) (e : SE) : SE := fun env S E Q => cComp it own g t e env S E fun ys S1 => anyD ys S1 Q

/-! statements -/
def sNext : SS := fun D env S => D.nx env S
def sBreak : SS := fun D env S => D.bk env S
def sCont : SS := fun D env S => D.ct env S
def sSeq : List SS → SS
  | [] => sNext
  | s :: r => fun D env S => s { D with nx := sSeq r D } env S
def sExpr (e : SE) : SS := fun D env S => e env S (fun x S1 => D.ex x env S1) fun _ S1 => D.nx env S1
def sRet (e : SE) : SS := fun D env S => e env S (fun x S1 => D.ex x env S1) D.rt
def sRetN : SS := fun D _ S => D.rt .non S
def sAsg (e : SE) (g : SG) : SS := fun D env S => e env S (fun x S1 => D.ex x env S1) fun d S1 => g d env S1 noX D.nx
def sPar (i j : Nat) (a b : SE) : SS := fun D env S => a env S (fun x S1 => D.ex x env S1) fun d S1 => b env S1 (fun x S2 => D.ex x env S2) fun d' S2 => D.nx ((env.set i (some d)).set j (some d')) S2
def sIf (t : ST) (a b : SS) : SS := fun D env S => t env S (fun x S1 => D.ex x env S1) fun k S1 => if k = true then a D env S1 else b D env S1
def whileN (t : ST) (body : SS) (D : DEnds) : Nat → Env → Store → Prop
  | 0, _, _ => False
  | n + 1, env, S => t env S (fun x S1 => D.ex x env S1) fun k S1 =>
    if k = true then body { D with nx := whileN t body D n, ct := whileN t body D n, bk := D.nx } env S1 else D.nx env S1
def sWhile (t : ST) (body : SS) : SS := fun D env S => ∃ n, whileN t body D n env S
def forLoop (keep : Store → Prop) (g : SG) (body : SS) (W : DEnds) : List D → Env → Store → Prop
  | [], env, S => keep S ∧ W.nx env S
  | d :: ds, env, S => keep S ∧ g d env S noX fun env1 S1 =>
    body { W with nx := forLoop keep g body W ds, ct := forLoop keep g body W ds, bk := W.nx } env1 S1
def sFor (it : SI) (g : SG) (body : SS) : SS := fun D env S => it env S (fun x S1 => D.ex x env S1) fun ds keep S1 => forLoop keep g body D ds env S1
def sRaise (T : Tab) (c : Str) (es : List SE) : SS := fun D env S => match T.exc c with
  | some ns => eList es env S (fun x S1 => D.ex x env S1) fun ds S1 => ds.length = ns.length ∧ D.ex ⟨c, ns.zip ds⟩ env S1
  | none => False
mutual
/-- no caught error within -/
def noEx : D → Bool
  | .exc _ _ => false
  | .tup xs => noExs xs
  | _ => true
def noExs : List D → Bool
  | [] => true
  | d :: ds => noEx d && noExs ds
end
/-- a store with new cells of plain data -/
def newS (S S1 : Store) : Prop := S1 = S ∨ ∃ g : Store, S1 = S ++ g ∧ ∀ ds, Cell.lst ds ∈ g → noExs ds = true
/-- except clauses: class, slot, what is returned -/
def sHands (T : Tab) (D : DEnds) : List (Str × Nat × SE) → Exn → Env → Store → Prop
  | [], x, env, S => D.ex x env S
  | (c, i, s) :: r, x, env, S => T.exc x.cls = some (x.fs.map Prod.fst) ∧ if T.isa x.cls c = true then
      s (env.set i (some (.exc x.cls x.fs))) S noX fun d S1 => (newS S S1 ∧ noEx d = true) ∧ D.rt d S1
    else sHands T D r x env S
def sTry (T : Tab) (body : SS) (hs : List (Str × Nat × SE)) : SS := fun D env S => body { D with ex := sHands T D hs } env S
def augD (f : D → D → Store → QV → Prop) (i : Nat) (e : SE) : SS := fun D env S => look env i fun x => e env S (fun x S1 => D.ex x env S1) fun y S1 => f x y S1 fun z S2 => D.nx (env.set i (some z)) S2
/-- isinstance(e, k), e a caught error -/
def eInst (T : Tab) (j : Nat) (k : Str) : SE := fun env S _ Q => look env j fun d => match d with
  | .exc c _ => Q (.bl (T.isa c k)) S
  | _ => False
/-- f(e): the kinds that f lists, in two rows -/
def eKin (T : Tab) (f : Str) (j : Nat) : SE := fun env S _ Q => look env j fun d => match d, T.kin f with
  | .exc c _, some (a, b) => Q (.lref (S.length + 2)) (S ++ [.lst (a.map fun k => .bl (T.isa c k)), .lst (b.map fun k => .bl (T.isa c k)), .lst ((a ++ b).map fun k => .bl (T.isa c k))])
  | _, _ => False
def attrD (f : Str) : D → Store → QV → Prop
  | .exc _ fs, S, Q => match fs.lookup f with
    | some d => Q d S
    | none => False
  | _, _, _ => False
end SD

-- SD2
set_option Elab.async false
set_option linter.all false
set_option maxRecDepth 100000
namespace SD
open PySem L2
/-! the translation: a def's text to its reading over data -/
structure TC where
  N : List Str
  sc : Scope
  wr : Option Scope
  calm : Bool
  T : Tab

def locK : Option NameKind → Bool
  | some .local => true
  | some .cell => true
  | _ => false
def visK : Option NameKind → Bool
  | some .local => true
  | some .cell => true
  | some .free => true
  | _ => false
def glK : Option NameKind → Bool
  | some .globalImplicit => true
  | _ => false
def locOnly : Option NameKind → Bool
  | some .local => true
  | _ => false
/-- names that may be stored -/
def tgB (C : TC) (x : Str) : Bool := match C.wr with
  | none => locK (C.sc.names.lookup x)
  | some s => locK (s.names.lookup x) && locK (C.sc.names.lookup x)
def ixFrom (x : Str) : List Str → Nat → Option Nat
  | [], _ => none
  | y :: r, i => if decide (y = x) = true then some i else ixFrom x r (i + 1)
def ixOf (N : List Str) (x : Str) : Option Nat := ixFrom x N 0
def plainB (x : Str) : Bool := !(x == ("__debug__" : Str)) && !(x == ("__classdict__" : Str)) && decide (x ≠ ("__name__" : Str))
def biNames : List Str := ["len", "abs", "tuple", "list", "int", "isinstance", "all", "any", "range", "zip", "enumerate", "repr", "sorted", "sum", "max", "min", "str", "dict", "super", "bool", "ValueError"]
def isBi (x : Str) : Bool := biNames.any fun y => decide (y = x)

def trConst : Const → Option SE
  | .none => some (eC .non)
  | .bool b => some (eC (.bl b))
  | .int i => some (eC (.int i))
  | .str x => some (eC (.str x))
  | _ => none
def trName (C : TC) (x : Str) : Option SE :=
  if plainB x = true then
    if visK (C.sc.names.lookup x) = true then (ixOf C.N x).map eVar
    else if glK (C.sc.names.lookup x) = true then if isBi x = true then none else some (eGlob C.T x)
    else none
  else none
def trOp : Operator → Option (D → D → Store → QV → Prop)
  | .Add => some addD
  | .Sub => some subD
  | .Mult => some mulD
  | .FloorDiv => some fdivD
  | .Mod => some modD
  | .Pow => some powD
  | _ => none
def trCOp : CmpOp → Option COp
  | .Eq => some .eq
  | .NotEq => some .ne
  | .Lt => some .lt
  | .LtE => some .le
  | .Gt => some .gt
  | .GtE => some .ge
  | .Is => some .is_
  | .IsNot => some .isnot
  | .In => some .in_
  | .NotIn => some .notin
def tyOf (x : Str) : Option String :=
  if decide (x = "int") = true then some "int" else if decide (x = "bool") = true then some "bool" else if decide (x = "str") = true then some "str"
  else if decide (x = "tuple") = true then some "tuple" else if decide (x = "list") = true then some "list" else none
def plainE : Expr → Bool
  | .Starred _ _ => false
  | _ => true
def plainEs : List Expr → Bool
  | [] => true
  | e :: es => plainE e && plainEs es
def isSet : Expr → Bool
  | .Set _ _ _ => true
  | _ => false
def isSl : Expr → Bool
  | .Slice _ _ _ _ => true
  | _ => false
def isComp : Expr → Bool
  | .ListComp _ _ _ _ => true
  | .SetComp _ _ _ _ => true
  | .DictComp _ _ _ _ _ => true
  | _ => false
def isCall0 : Expr → Bool
  | .Call _ [] _ _ => true
  | _ => false
/-- an expression whose truth is looked at as a value's -/
def asValue : Expr → Bool
  | .UnaryOp .Not _ _ => false
  | .BoolOp _ _ _ => false
  | .IfExp _ _ _ _ => false
  | .Compare _ _ _ _ => false
  | _ => true

structure Tr where
  e : TC → Expr → Option SE
  t : TC → Expr → Option ST
  i : TC → Expr → Expr → Option SI
  g : TC → Expr → Option SG
def trL (f : Expr → Option α) : List Expr → Option (List α)
  | [] => some []
  | e :: es => (f e).bind fun t => (trL f es).map (t :: ·)
def trArgs (f : Expr → Option SE) (es : List Expr) : Option (List SE) := if plainEs es = true then trL f es else none
def trAnd (f : Expr → Option SE) : List Expr → Option SE
  | [] => none
  | [e] => f e
  | e :: es => (f e).bind fun a => (trAnd f es).map (eAnd a)
def trOr (f : Expr → Option SE) : List Expr → Option SE
  | [] => none
  | [e] => f e
  | e :: es => (f e).bind fun a => (trOr f es).map (eOr a)
def ttAnd (f : Expr → Option ST) : List Expr → Option ST
  | [] => none
  | [e] => f e
  | e :: es => (f e).bind fun a => (ttAnd f es).map (tAnd a)
def ttOr (f : Expr → Option ST) : List Expr → Option ST
  | [] => none
  | [e] => f e
  | e :: es => (f e).bind fun a => (ttOr f es).map (tOr a)
def ownOf (N : List Str) : List (Str × NameKind) → List (Str × Nat)
  | [] => []
  | (x, k) :: r => match locK (some k), ixOf N x with
    | true, some i => (x, i) :: ownOf N r
    | _, _ => ownOf N r
structure CompT where
  it : SI
  own : List Nat
  g : SG
  t : ST
  e : SE
def trComp (p : Tr) (C : TC) (elt : Expr) (gens : List Comprehension) (scope : Scope) : Option CompT := match gens with
  | [⟨tg, iter, ifs, isA⟩] =>
    if (C.calm && blkC C.N C.sc scope (ownOf C.N scope.names) && !isSet iter && decide (isA = 0)) = true then
      (p.i C tg iter).bind fun it => (p.g ⟨C.N, relS scope C.sc, some scope, true, C.T⟩ tg).bind fun g =>
        (match ifs with
          | [] => some tYes
          | [c] => p.t ⟨C.N, relS scope C.sc, some scope, true, C.T⟩ c
          | _ => none).bind fun t => (p.e ⟨C.N, relS scope C.sc, some scope, true, C.T⟩ elt).map fun e => ⟨it, (ownOf C.N scope.names).map Prod.snd, g, t, e⟩
    else none
  | _ => none
def trB1 (f : Str) : Option (D → Store → QV → Prop) :=
  if decide (f = "len") = true then some lenD else if decide (f = "abs") = true then some absD else if decide (f = "tuple") = true then some tupleD
  else if decide (f = "list") = true then some listD else if decide (f = "int") = true then some intD else if decide (f = "repr") = true then some reprD else none
def trBC (f : Str) (c : CompT) : Option SE :=
  if decide (f = "tuple") = true then some (eTupC c.it c.own c.g c.t c.e) else if decide (f = "all") = true then some (eAllC c.it c.own c.g c.t c.e)
  else if decide (f = "any") = true then some (eAnyC c.it c.own c.g c.t c.e) else none
def trBI (p : Tr) (C : TC) (f : Str) (args : List Expr) : Option SE := match args with
  | [.ListComp elt gens scope _] => (trComp p C elt gens scope).bind (trBC f)
  | [a] => (trB1 f).bind fun b => if plainE a = true then (p.e C a).map (eB1 b) else none
  | [a, .Name t _] => if (decide (f = "isinstance") && plainE a && glK (C.sc.names.lookup t) && plainB t) = true then (tyOf t).bind fun u => (p.e C a).map (eB1 (isaD [u])) else none
  | _ => none
def stE (p : Tr) (C : TC) : Expr → Option SE
  | .Constant c _ _ => trConst c
  | .Name x _ => trName C x
  | .Tuple es _ _ => if es.length ≤ 1000 then (trArgs (p.e C) es).map eTup else none
  | .List es _ => if es.length ≤ 1000 then (trArgs (p.e C) es).map eLst else none
  | .BinOp a op b _ => (trOp op).bind fun f => (p.e C a).bind fun ta => (p.e C b).map (eBin f ta)
  | .UnaryOp .USub a _ => (p.e C a).map (eUn negD)
  | .UnaryOp .Not a _ => (p.e C a).map eNot
  | .BoolOp .And es _ => trAnd (p.e C) es
  | .BoolOp .Or es _ => trOr (p.e C) es
  | .IfExp c a b _ => (p.t C c).bind fun t => (p.e C a).bind fun ta => (p.e C b).map (eIf t ta)
  | .Compare a [op] [b] _ => if isSet b = true then none else (trCOp op).bind fun o => (p.e C a).bind fun ta => (p.e C b).map (eCmp o ta)
  | .Compare a [op, op'] [b, c] _ => if isSet c = true then none else (trCOp op).bind fun o => (trCOp op').bind fun o' => (p.e C a).bind fun ta => (p.e C b).bind fun tb => (p.e C c).map (eChain o o' ta tb)
  | .Subscript a (.Slice lo hi none _) _ => (p.e C a).bind fun ta =>
    (match lo with
      | none => some none
      | some l => (p.e C l).map some).bind fun tl =>
    (match hi with
      | none => some none
      | some h => (p.e C h).map some).map fun th => eSlice ta tl th
  | .Subscript a b _ => if isSl b = true then none else (p.e C a).bind fun ta => (p.e C b).map (eIx ta)
  | .ListComp elt gens scope _ => (trComp p C elt gens scope).map fun c => eComp c.it c.own c.g c.t c.e
  | .Call (.Name f _) args [] _ =>
    if (C.calm && plainB f) = true then
      if visK (C.sc.names.lookup f) = true then match args with
        | [] => none
        | _ :: _ => (ixOf C.N f).bind fun i => (trArgs (p.e C) args).map (eCallV C.T (eVar i))
      else if glK (C.sc.names.lookup f) = true then
        if isBi f = true then trBI p C f args else (trArgs (p.e C) args).map (eCall C.T f)
      else none
    else none
  | .Call (.Attribute o m apos) args [] cpos => match args with
    | [a] => if (decide (m = "append") && plainE a && !isCall0 o && (apos.endLine == cpos.line)) = true then (p.e C o).bind fun to => (p.e C a).map (eApp to) else none
    | _ => none
  | .Call (.Subscript a b _) args [] _ => if (isSl b || !C.calm) = true then none else match args with
    | [] => none
    | _ :: _ => (p.e C a).bind fun ta => (p.e C b).bind fun tb => (trArgs (p.e C) args).map (eCallV C.T (eIx ta tb))
  | _ => none
def stT (p : Tr) (C : TC) : Expr → Option ST
  | .BoolOp .And es _ => ttAnd (p.t C) es
  | .BoolOp .Or es _ => ttOr (p.t C) es
  | .UnaryOp .Not a _ => (p.t C a).map tNot
  | .Compare a ops bs pos => (stE p C (.Compare a ops bs pos)).map tE
  | e => if asValue e = true then (stE p C e).map tE else none
def isTupE : Expr → Bool
  | .Tuple _ _ _ => true
  | _ => false
def stI (p : Tr) (C : TC) (tg : Expr) : Expr → Option SI
  | .Call (.Name f fp) args [] pos =>
    if (C.calm && plainB f && glK (C.sc.names.lookup f) && isBi f) = true then
      if decide (f = "range") = true then match args with
        | [a] => if plainE a = true then (p.e C a).map iRange1 else none
        | [a, b] => if (plainE a && plainE b) = true then (p.e C a).bind fun ta => (p.e C b).map (iRange2 ta) else none
        | _ => none
      else if decide (f = "zip") = true then match args with
        | [a, b] => if (plainE a && plainE b && isTupE tg) = true then (p.e C a).bind fun ta => (p.e C b).map (iZip ta) else none
        | _ => none
      else none
    else (stE p C (.Call (.Name f fp) args [] pos)).map iE
  | e => (stE p C e).map iE
def stG (p : Tr) (C : TC) : Expr → Option SG
  | .Name x _ => if tgB C x = true then (ixOf C.N x).map gVar else none
  | .Tuple es _ _ => if (C.calm && plainEs es) = true then (trL (p.g C) es).map gTup else none
  | .Subscript o i _ => if isSl i = true then none else (p.e C o).bind fun to => (p.e C i).map (gIx to)
  | _ => none
def tr : Nat → Tr
  | 0 => ⟨fun _ _ => none, fun _ _ => none, fun _ _ _ => none, fun _ _ => none⟩
  | n + 1 => ⟨stE (tr n), stT (tr n), stI (tr n), stG (tr n)⟩
end SD

-- SD3
set_option Elab.async false
set_option linter.all false
set_option maxRecDepth 100000
namespace SD
open PySem L2
/-! values and heaps that stand for data -/
/-- what stands around: the written part, the defs' places, the classes' places, the caught error -/
structure ExI where
  a : Addr
  d : Addr
  c : Str
  ks : List Str
structure GC where
  K : PySem.W.Frag
  fa : Str → Option Addr
  ca : Str → Option Addr
  ex : Option ExI
/-- a list that is never written -/
def SqF (K : PySem.W.Frag) (H : Hp) (a : Addr) (xs : List V) : Prop := (∃ o, H a = some (.frz o (.lst xs))) ∨ SqL K (fun _ => none) a xs
mutual
def Rep (G : GC) (H : Hp) (as : List Addr) : D → V → Prop
  | .non, v => v = .non
  | .bl b, v => v = .bl b
  | .int i, v => v = .int i
  | .str x, v => v = .str x
  | .tup ds, v => ∃ p vs, v = .ref p ∧ SqT G.K H p vs ∧ Reps G H as ds vs
  | .lref k, v => ∃ a, v = .ref a ∧ as[k]? = some a
  | .fn n, v => ∃ a, v = .ref a ∧ G.fa n = some a
  | .scr ns, v => ∃ a, v = .ref a ∧ SqF G.K H a (ns.map V.int)
  | .exc c fs, v => ∃ i vs, v = .ref i.a ∧ (G.ex = some i ∧ i.c = c ∧ i.ks = fs.map Prod.fst) ∧ H i.d = some (.xd vs) ∧ RepF G H as fs vs
def Reps (G : GC) (H : Hp) (as : List Addr) : List D → List V → Prop
  | [], vs => vs = []
  | d :: ds, vs => ∃ v r, vs = v :: r ∧ Rep G H as d v ∧ Reps G H as ds r
def RepF (G : GC) (H : Hp) (as : List Addr) : List (Str × D) → List (Str × V) → Prop
  | [], vs => vs = []
  | (x, d) :: ds, vs => ∃ v r, vs = (x, v) :: r ∧ Rep G H as d v ∧ RepF G H as ds r
end
def CellR (G : GC) (H : Hp) (as : List Addr) (a : Addr) : Cell → Prop
  | .lst ds => ∃ vs, H a = some (.lst vs) ∧ Reps G H as ds vs
  | .dct _ => False
structure RepS (G : GC) (H : Hp) (as : List Addr) (S : Store) : Prop where
  len : as.length = S.length
  nd : as.Nodup
  cell : ∀ (k : Nat) (a : Addr) (c : Cell), as[k]? = some a → S[k]? = some c → CellR G H as a c
structure Ext (H : Hp) (as : List Addr) (H' : Hp) (as' : List Addr) : Prop where
  pre : ∃ r, as' = as ++ r
  keep : ∀ p o, H p = some o → p ∉ as → H' p = some o
  fresh : ∀ a ∈ as', a ∉ as → H a = none
theorem Ext.refl (H : Hp) (as : List Addr) : Ext H as H as := ⟨⟨[], by simp⟩, fun _ _ h _ => h, fun a h n => absurd h n⟩
theorem Ext.sub {H H' : Hp} {as as' : List Addr} (e : Ext H as H' as') : ∀ a ∈ as, a ∈ as' := fun a h => by
  obtain ⟨r, rfl⟩ := e.pre
  exact List.mem_append_left _ h
theorem Ext.trans {H H1 H2 : Hp} {as as1 as2 : List Addr} (e : Ext H as H1 as1) (f : Ext H1 as1 H2 as2) : Ext H as H2 as2 := by
  refine ⟨?_, fun p o h n => ?_, fun a h n => ?_⟩
  · obtain ⟨r, rfl⟩ := e.pre
    obtain ⟨q, rfl⟩ := f.pre
    exact ⟨r ++ q, by simp⟩
  · refine f.keep p o (e.keep p o h n) fun m => ?_
    rw [e.fresh p m n] at h
    cases h
  · by_cases m : a ∈ as1
    · exact e.fresh a m n
    · have z := f.fresh a h m
      cases q : H a with
      | none => rfl
      | some o => rw [e.keep a o q n] at z; cases z
theorem Ext.get {H H' : Hp} {as as' : List Addr} {k : Nat} {a : Addr} (e : Ext H as H' as') (h : as[k]? = some a) : as'[k]? = some a := by
  obtain ⟨r, rfl⟩ := e.pre
  rw [List.getElem?_append_left (List.getElem?_eq_some_iff.mp h).1]
  exact h
section
variable {G : GC} {H H' : Hp} {as as' : List Addr} {S S' : Store} {d : D} {v : V} {ds : List D} {vs : List V}
theorem RepS.lists (r : RepS G H as S) {a : Addr} (h : a ∈ as) : ∃ xs, H a = some (.lst xs) := by
  obtain ⟨k, hk, e⟩ := List.getElem_of_mem h
  have hs : k < S.length := by rw [← r.len]; exact hk
  have c := r.cell k a S[k] (by rw [List.getElem?_eq_getElem hk, e]) (List.getElem?_eq_getElem hs)
  revert c
  cases S[k] with
  | lst ds => exact fun ⟨vs, q, _⟩ => ⟨vs, q⟩
  | dct _ => exact fun q => q.elim
theorem RepS.notin (r : RepS G H as S) {a : Addr} {o : HO} (h : H a = some o) (n : ∀ xs, o ≠ .lst xs) : a ∉ as := fun m => by
  obtain ⟨xs, q⟩ := r.lists m
  rw [h] at q
  cases q
  exact n xs rfl
/-- what is not a list is kept -/
structure Imm (H : Hp) (as : List Addr) (H' : Hp) (as' : List Addr) : Prop where
  pre : ∃ r, as' = as ++ r
  keep : ∀ p o, H p = some o → (∀ xs, o ≠ .lst xs) → H' p = some o
theorem Imm.of (r : RepS G H as S) (e : Ext H as H' as') : Imm H as H' as' := ⟨e.pre, fun p o h n => e.keep p o h (r.notin h n)⟩
theorem Imm.get {k : Nat} {a : Addr} (e : Imm H as H' as') (h : as[k]? = some a) : as'[k]? = some a := by
  obtain ⟨r, rfl⟩ := e.pre
  rw [List.getElem?_append_left (List.getElem?_eq_some_iff.mp h).1]
  exact h
theorem Imm.tup (e : Imm H as H' as') {K : PySem.W.Frag} {p : Addr} {xs : List V} (h : SqT K H p xs) : SqT K H' p xs := by
  rcases h with (h | ⟨o, h⟩) | h
  · exact .inl (.inl (e.keep _ _ h fun _ z => by cases z))
  · exact .inl (.inr ⟨o, e.keep _ _ h fun _ z => by cases z⟩)
  · exact .inr h
theorem Imm.frz (e : Imm H as H' as') {K : PySem.W.Frag} {p : Addr} {xs : List V} (h : SqF K H p xs) : SqF K H' p xs := by
  rcases h with ⟨o, h⟩ | h
  · exact .inl ⟨o, e.keep _ _ h fun _ z => by cases z⟩
  · exact .inr h
theorem Ext.tup (r : RepS G H as S) (e : Ext H as H' as') {K : PySem.W.Frag} {p : Addr} {xs : List V} (h : SqT K H p xs) : SqT K H' p xs := (Imm.of r e).tup h
mutual
theorem Rep.imm (e : Imm H as H' as') : ∀ (d : D) (v : V), Rep G H as d v → Rep G H' as' d v
  | .non, _, h => h
  | .bl _, _, h => h
  | .int _, _, h => h
  | .str _, _, h => h
  | .tup ds, _, ⟨p, vs, h1, h2, h3⟩ => ⟨p, vs, h1, e.tup h2, Reps.imm e ds vs h3⟩
  | .lref k, _, ⟨a, h1, h2⟩ => ⟨a, h1, e.get h2⟩
  | .fn n, _, h => h
  | .scr ns, _, ⟨a, h1, h2⟩ => ⟨a, h1, e.frz h2⟩
  | .exc c fs, _, ⟨i, vs, h1, h2, h3, h4⟩ => ⟨i, vs, h1, h2, e.keep _ _ h3 (fun _ z => by cases z), RepF.imm e fs vs h4⟩
theorem Reps.imm (e : Imm H as H' as') : ∀ (ds : List D) (vs : List V), Reps G H as ds vs → Reps G H' as' ds vs
  | [], _, h => h
  | d :: ds, _, ⟨v, q, h1, h2, h3⟩ => ⟨v, q, h1, Rep.imm e d v h2, Reps.imm e ds q h3⟩
theorem RepF.imm (e : Imm H as H' as') : ∀ (fs : List (Str × D)) (vs : List (Str × V)), RepF G H as fs vs → RepF G H' as' fs vs
  | [], _, h => h
  | (x, d) :: ds, _, ⟨v, q, h1, h2, h3⟩ => ⟨v, q, h1, Rep.imm e d v h2, RepF.imm e ds q h3⟩
end
theorem Rep.mono (r : RepS G H as S) (e : Ext H as H' as') (d : D) (v : V) : Rep G H as d v → Rep G H' as' d v := Rep.imm (Imm.of r e) d v
theorem Reps.mono (r : RepS G H as S) (e : Ext H as H' as') (ds : List D) (vs : List V) : Reps G H as ds vs → Reps G H' as' ds vs := Reps.imm (Imm.of r e) ds vs
theorem RepF.mono (r : RepS G H as S) (e : Ext H as H' as') (ds : List (Str × D)) (vs : List (Str × V)) : RepF G H as ds vs → RepF G H' as' ds vs := RepF.imm (Imm.of r e) ds vs
/-- an unknown list is changed -/
theorem Imm.off {p : Addr} {xs ys : List V} (h : H p = some (.lst xs)) : Imm H as (upd H p (.lst ys)) as := ⟨⟨[], by simp⟩, fun q o k n => by
  rw [upd_ne fun z => ?_]
  · exact k
  · subst z
    rw [h] at k
    cases k
    exact n _ rfl⟩
theorem RepS.off {p : Addr} {xs ys : List V} (r : RepS G H as S) (h : H p = some (.lst xs)) (np : p ∉ as) : RepS G (upd H p (.lst ys)) as S := by
  refine ⟨r.len, r.nd, fun k a c h1 h2 => ?_⟩
  have q := r.cell k a c h1 h2
  have na : a ≠ p := fun z => np (z ▸ List.mem_of_getElem? h1)
  cases c with
  | dct _ => exact q
  | lst ds =>
    obtain ⟨vs, q1, q2⟩ := q
    exact ⟨vs, by rw [upd_ne na]; exact q1, Reps.imm (Imm.off h) ds vs q2⟩
theorem Reps.length : ∀ {ds : List D} {vs : List V}, Reps G H as ds vs → vs.length = ds.length
  | [], _, h => by cases h; rfl
  | d :: ds, _, ⟨v, r, h1, _, h3⟩ => by rw [h1, List.length_cons, List.length_cons, Reps.length h3]
theorem Reps.get : ∀ {ds : List D} {vs : List V} {i : Nat} {d : D}, Reps G H as ds vs → ds[i]? = some d → ∃ v, vs[i]? = some v ∧ Rep G H as d v
  | [], _, _, _, _, e => by simp at e
  | d :: ds, _, 0, _, ⟨v, r, h1, h2, _⟩, e => by
    rw [h1]
    simp at e
    exact ⟨v, rfl, e ▸ h2⟩
  | d :: ds, _, i + 1, d', ⟨v, r, h1, _, h3⟩, e => by
    obtain ⟨u, q1, q2⟩ := Reps.get (i := i) h3 (by simpa using e)
    exact ⟨u, by rw [h1]; simpa using q1, q2⟩
theorem Reps.append : ∀ {ds es : List D} {vs ws : List V}, Reps G H as ds vs → Reps G H as es ws → Reps G H as (ds ++ es) (vs ++ ws)
  | [], _, _, _, h, k => by cases h; exact k
  | d :: ds, es, _, ws, ⟨v, r, h1, h2, h3⟩, k => ⟨v, r ++ ws, by rw [h1]; rfl, h2, Reps.append h3 k⟩
theorem Reps.take : ∀ {ds : List D} {vs : List V} (n : Nat), Reps G H as ds vs → Reps G H as (ds.take n) (vs.take n)
  | _, _, 0, _ => rfl
  | [], _, n + 1, h => by cases h; rfl
  | d :: ds, _, n + 1, ⟨v, r, h1, h2, h3⟩ => ⟨v, r.take n, by rw [h1]; rfl, h2, Reps.take n h3⟩
theorem Reps.drop : ∀ {ds : List D} {vs : List V} (n : Nat), Reps G H as ds vs → Reps G H as (ds.drop n) (vs.drop n)
  | ds, _, 0, h => h
  | [], _, n + 1, h => by cases h; rfl
  | d :: ds, _, n + 1, ⟨v, r, h1, h2, h3⟩ => by rw [h1]; exact Reps.drop n h3
theorem Reps.set : ∀ {ds : List D} {vs : List V} {d : D} {v : V} (n : Nat), Rep G H as d v → Reps G H as ds vs → Reps G H as (ds.set n d) (vs.set n v)
  | [], _, _, _, _, _, h => by cases h; rfl
  | d :: ds, _, _, v', 0, k, ⟨v, r, h1, h2, h3⟩ => ⟨v', r, by rw [h1]; rfl, k, h3⟩
  | d :: ds, _, _, v', n + 1, k, ⟨v, r, h1, h2, h3⟩ => ⟨v, r.set n v', by rw [h1]; rfl, h2, Reps.set n k h3⟩
theorem Reps.replicate {ds : List D} {vs : List V} (h : Reps G H as ds vs) : ∀ n : Nat, Reps G H as (List.replicate n ds).flatten (List.replicate n vs).flatten
  | 0 => rfl
  | n + 1 => by
    rw [List.replicate_succ, List.replicate_succ, List.flatten_cons, List.flatten_cons]
    exact h.append (Reps.replicate h n)
theorem Reps.ints : ∀ ns : List Int, Reps G H as (ns.map D.int) (ns.map V.int)
  | [] => rfl
  | n :: ns => ⟨_, _, rfl, rfl, Reps.ints ns⟩
end
end SD

-- SD4
set_option Elab.async false
set_option linter.all false
set_option maxRecDepth 100000
set_option maxHeartbeats 2000000
namespace SD
open PySem L2
structure RepE (G : GC) (H : Hp) (as : List Addr) (env : Env) (σ : St) : Prop where
  len : env.length = σ.length
  get : ∀ (i : Nat) (d : D), env[i]? = some (some d) → ∃ v, σ[i]? = some (some v) ∧ Rep G H as d v
def RepX (G : GC) (H : Hp) (as : List Addr) (x : Exn) (cls : Value) (d : Option Addr) : Prop :=
  ∃ C dd vs, G.ca x.cls = some C ∧ cls = .ref C ∧ d = some dd ∧ H dd = some (.xd vs) ∧ RepF G H as x.fs vs
def ExOk (G : GC) (W : XK) (H : Hp) (as : List Addr) (E : QX) : Prop :=
  ∀ x cls d H' as' S', Ext H as H' as' → RepS G H' as' S' → RepX G H' as' x cls d → E x S' → W cls d H'
def Post (G : GC) (H : Hp) (as : List Addr) (Qd : QV) (Q : VK) : Prop :=
  ∀ v H' as' d S', Ext H as H' as' → RepS G H' as' S' → Rep G H' as' d v → Qd d S' → Q v H'
/-- a reading over data, as a reading over values -/
def LE (G : GC) (W : WX) (t : SE) : TE := fun σ H Q => ∃ (env : Env) (S : Store) (as : List Addr) (E : QX) (Qd : QV),
  RepE G H as env σ ∧ RepS G H as S ∧ ExOk G (fun c d h => W c d σ h) H as E ∧ t env S E Qd ∧ Post G H as Qd Q
def LT (G : GC) (W : WX) (t : ST) : TT := fun σ H Q => ∃ (env : Env) (S : Store) (as : List Addr) (E : QX) (Qd : QB),
  RepE G H as env σ ∧ RepS G H as S ∧ ExOk G (fun c d h => W c d σ h) H as E ∧ t env S E Qd ∧
    ∀ b H' as' S', Ext H as H' as' → RepS G H' as' S' → Qd b S' → Q b H'
def LA (G : GC) (W : WX) (n : Nat) (t : Env → Store → QX → QL → Prop) : TA := fun σ H Q => ∃ (env : Env) (S : Store) (as : List Addr) (E : QX) (Qd : QL),
  RepE G H as env σ ∧ RepS G H as S ∧ ExOk G (fun c d h => W c d σ h) H as E ∧ t env S E Qd ∧
    ∀ vs H' as' ds S', Ext H as H' as' → RepS G H' as' S' → Reps G H' as' ds vs → ds.length = n → Qd ds S' → Q vs H'
/-- a def's promise over data, as a promise over values -/
def LSp (G : GC) (n : Nat) (sp : SpD) : Sp := fun vs H Q E => vs.length = n ∧ ∃ (S : Store) (as : List Addr) (ds : List D) (Ed : QX) (Qd : QV),
  RepS G H as S ∧ Reps G H as ds vs ∧ ExOk G E H as Ed ∧ sp ds S Ed Qd ∧ Post G H as Qd Q
structure FnG (P : Program) (w : World) (K : PySem.W.Frag) (mg : Str → Option Value) (base : Heap) (k : Nat) (f : Addr) (fd : FuncData) (ps : List Str) (sp : Sp) : Prop where
  len : ∀ vs H Q E, sp vs H Q E → vs.length = ps.length
  run : ∀ (A : Around) (outer : List PySem.Env) (s : Shared) (H : Hp) (args : Args) (us : List Value) (vs : List V) (Q : VK) (E : XK), Room k A → A.guards = some [] →
    Env0 P w K mg base A outer s H → BindsTo s fd args (ps.zip us) → Vals vs us → sp vs H Q E → codeAny (model P w) A (.call (.ref f) args) (CR (L2.CX P w) outer P w H s Q E) s
/-- a def that may be called -/
structure Cal (G : GC) (X : Cx) (f : Str) (d : FnD) : Prop where
  ex : ∃ (k : Nat) (a : Addr) (fd : FuncData) (ps : List Str), X.mg f = some (.ref a) ∧ G.fa f = some a ∧ PySem.W.keepIn X.K (.ref a) = true ∧ Binds X.K fd ps [] ∧
    FnG X.prog X.w X.K X.mg X.base k a fd ps (LSp G d.n d.sp) ∧ Room k X.A ∧ ps.length = d.n
structure CtxOk (G : GC) (C : TC) (X : Cx) (W : WX) : Prop where
  K : X.K = G.K
  N : X.N = C.N
  sc : X.env.scope = C.sc
  nd : C.N.Nodup
  kind : X.env.scope.kind = .function
  calm : C.calm = true → X.calm = true
  room : C.calm = true → Room 0 X.A
  units : X.A.units + 65 < cLine
  guards : X.A.guards = some []
  tg : ∀ x, tgB C x = true → Loc X.env.scope x ∧ (X.fn x = true ∨ X.env.scope.names.lookup x = some .local)
  bi : ∀ x, isBi x = true → X.mg x = none
  glob : ∀ x d, C.T.glob x = some d → ∃ u v, X.mg x = some u ∧ RelV v u ∧ ∀ H as, Rep G H as d v
  sp : C.calm = true → ∀ f d, C.T.sp f = some d → Cal G X f d
  tk : Takes X W
  po : PassesOwn (model X.prog X.w) X.A X.env X.xe
section
variable {G : GC} {H H' H1 : Hp} {as as' as1 : List Addr} {S S' S1 : Store} {d : D} {v : V} {ds : List D} {vs : List V} {env : Env} {σ : St} {W : WX} {E : QX}
theorem RepE.mono (r : RepS G H as S) (e : Ext H as H' as') (h : RepE G H as env σ) : RepE G H' as' env σ := ⟨h.len, fun i d q => by
  obtain ⟨v, h1, h2⟩ := h.get i d q
  exact ⟨v, h1, Rep.mono r e d v h2⟩⟩
theorem ExOk.mono {W : XK} (e : Ext H as H' as') (h : ExOk G W H as E) : ExOk G W H' as' E := fun x cls d H2 as2 S2 e2 r2 rx q => h x cls d H2 as2 S2 (e.trans e2) r2 rx q
theorem le_mk {t : SE} {Qd : QV} {Q : VK} (he : RepE G H as env σ) (hs : RepS G H as S) (hx : ExOk G (fun c d h => W c d σ h) H as E) (ht : t env S E Qd)
    (k : ∀ v H' as' d S', Ext H as H' as' → RepE G H' as' env σ → RepS G H' as' S' → ExOk G (fun c d h => W c d σ h) H' as' E → Rep G H' as' d v → Qd d S' → Q v H') : LE G W t σ H Q :=
  ⟨env, S, as, E, Qd, he, hs, hx, ht, fun v H' as' d S' e r rd q => k v H' as' d S' e (he.mono hs e) r (hx.mono e) rd q⟩
theorem lt_mk {t : ST} {Qd : QB} {Q : Bool → Hp → Prop} (he : RepE G H as env σ) (hs : RepS G H as S) (hx : ExOk G (fun c d h => W c d σ h) H as E) (ht : t env S E Qd)
    (k : ∀ b H' as' S', Ext H as H' as' → RepE G H' as' env σ → RepS G H' as' S' → ExOk G (fun c d h => W c d σ h) H' as' E → Qd b S' → Q b H') : LT G W t σ H Q :=
  ⟨env, S, as, E, Qd, he, hs, hx, ht, fun b H' as' S' e r q => k b H' as' S' e (he.mono hs e) r (hx.mono e) q⟩
theorem la_mk {n : Nat} {t : Env → Store → QX → QL → Prop} {Qd : QL} {Q : List V → Hp → Prop} (he : RepE G H as env σ) (hs : RepS G H as S) (hx : ExOk G (fun c d h => W c d σ h) H as E) (ht : t env S E Qd)
    (k : ∀ vs H' as' ds S', Ext H as H' as' → RepE G H' as' env σ → RepS G H' as' S' → ExOk G (fun c d h => W c d σ h) H' as' E → Reps G H' as' ds vs → ds.length = n → Qd ds S' → Q vs H') : LA G W n t σ H Q :=
  ⟨env, S, as, E, Qd, he, hs, hx, ht, fun vs H' as' ds S' e r rd l q => k vs H' as' ds S' e (he.mono hs e) r (hx.mono e) rd l q⟩
theorem PE.imp {X : Cx} {e : Expr} {t t' : TE} (h : PE X e t) (i : ∀ σ H Q, t' σ H Q → t σ H Q) : PE X e t' := ⟨fun pins s σ H Q I q => h.run pins s σ H Q I (i σ H Q q)⟩
theorem PT.imp {X : Cx} {e : Expr} {t t' : TT} (h : PT X e t) (i : ∀ σ H Q, t' σ H Q → t σ H Q) : PT X e t' := ⟨fun pins s σ H Q I q => h.run pins s σ H Q I (i σ H Q q)⟩
theorem PA.imp {X : Cx} {e : List Expr} {t t' : TA} (h : PA X e t) (i : ∀ σ H Q, t' σ H Q → t σ H Q) : PA X e t' := ⟨fun pos pins s σ H Q I q => h.run pos pins s σ H Q I (i σ H Q q)⟩
theorem PS.imp {X : Cx} {e : Stmt} {t t' : TS} (h : PS X e t) (i : ∀ W σ H, t' W σ H → t W σ H) : PS X e t' := ⟨fun pins s σ H W I q => h.run pins s σ H W I (i W σ H q)⟩
/-- a new tuple -/
theorem Ext.tuple {p : Addr} {xs : List V} (r : RepS G H as S) (hp : H p = none) : Ext H as (upd H p (.tup xs)) as := ⟨⟨[], by simp⟩, fun q o h _ => by rw [upd_ne (ne_of_none h hp)]; exact h, fun a h n => absurd h n⟩
theorem RepS.other {p : Addr} {o : HO} (r : RepS G H as S) (hp : H p = none) : RepS G (upd H p o) as S := by
  have e : Ext H as (upd H p o) as := ⟨⟨[], by simp⟩, fun q o h _ => by rw [upd_ne (ne_of_none h hp)]; exact h, fun a h n => absurd h n⟩
  refine ⟨r.len, r.nd, fun k a c h1 h2 => ?_⟩
  have q := r.cell k a c h1 h2
  cases c with
  | dct _ => exact q
  | lst ds =>
    obtain ⟨vs, q1, q2⟩ := q
    exact ⟨vs, by rw [upd_ne (ne_of_none q1 hp)]; exact q1, Reps.mono r e ds vs q2⟩
/-- a new list -/
theorem Ext.list {p : Addr} {xs : List V} (hp : H p = none) : Ext H as (upd H p (.lst xs)) (as ++ [p]) := ⟨⟨[p], rfl⟩, fun q o h _ => by rw [upd_ne (ne_of_none h hp)]; exact h, fun a h n => by
  rcases List.mem_append.mp h with m | m
  · exact absurd m n
  · rw [List.mem_singleton.mp m]; exact hp⟩
theorem RepS.push {p : Addr} {vs : List V} {ds : List D} (r : RepS G H as S) (hp : H p = none) (q : Reps G H as ds vs) : RepS G (upd H p (.lst vs)) (as ++ [p]) (S ++ [.lst ds]) := by
  have np : p ∉ as := fun m => by
    obtain ⟨xs, e⟩ := r.lists m
    rw [hp] at e; cases e
  have e : Ext H as (upd H p (.lst vs)) (as ++ [p]) := Ext.list hp
  refine ⟨by rw [List.length_append, List.length_append, r.len]; rfl, ?_, fun k a c h1 h2 => ?_⟩
  · rw [List.nodup_append]
    refine ⟨r.nd, by simp, fun a m b m' => ?_⟩
    rw [List.mem_singleton.mp m']
    exact fun z => np (z ▸ m)
  · by_cases hk : k < as.length
    · rw [List.getElem?_append_left hk] at h1
      rw [List.getElem?_append_left (by rw [← r.len]; exact hk)] at h2
      have q := r.cell k a c h1 h2
      cases c with
      | dct _ => exact q
      | lst ds =>
        obtain ⟨ws, q1, q2⟩ := q
        exact ⟨ws, by rw [upd_ne (ne_of_none q1 hp)]; exact q1, Reps.mono r e ds ws q2⟩
    · have hk' : as.length ≤ k := Nat.le_of_not_lt hk
      rw [List.getElem?_append_right hk'] at h1
      rw [List.getElem?_append_right (by rw [← r.len]; exact hk')] at h2
      have e0 : k - as.length = 0 := by
        have := (List.getElem?_eq_some_iff.mp h1).1
        simp at this
        omega
      rw [e0] at h1
      rw [← r.len, e0] at h2
      simp at h1 h2
      subst h1 h2
      exact ⟨vs, upd_same, Reps.mono r e ds vs q⟩
theorem rep_last {p : Addr} (r : RepS G H as S) : Rep G H' (as ++ [p]) (.lref S.length) (.ref p) := ⟨p, rfl, by rw [← r.len, List.getElem?_append_right (Nat.le_refl _)]; simp⟩
/-- a list is changed -/
theorem Ext.put {k : Nat} {a : Addr} {ws : List V} (h : as[k]? = some a) : Ext H as (upd H a (.lst ws)) as :=
  ⟨⟨[], by simp⟩, fun q o h' n => by
    have nq : q ≠ a := fun z => by
      subst z
      exact n (List.mem_of_getElem? h)
    rw [upd_ne nq]; exact h', fun a h n => absurd h n⟩
theorem RepS.put {k : Nat} {a : Addr} {ws : List V} {es : List D} (r : RepS G H as S) (h : as[k]? = some a) (q : Reps G H as es ws) : RepS G (upd H a (.lst ws)) as (S.set k (.lst es)) := by
  have e : Ext H as (upd H a (.lst ws)) as := Ext.put h
  refine ⟨by rw [List.length_set]; exact r.len, r.nd, fun j b c h1 h2 => ?_⟩
  by_cases hj : k = j
  · subst hj
    rw [h] at h1; cases h1
    rw [List.getElem?_set_self (by rw [← r.len]; exact (List.getElem?_eq_some_iff.mp h).1)] at h2
    cases h2
    exact ⟨ws, upd_same, Reps.mono r e es ws q⟩
  · rw [List.getElem?_set_ne hj] at h2
    have nb : b ≠ a := fun z => by
      subst z
      exact hj (nd_ix r.nd h h1)
    have q' := r.cell j b c h1 h2
    cases c with
    | dct _ => exact q'
    | lst ds =>
      obtain ⟨vs, q1, q2⟩ := q'
      exact ⟨vs, by rw [upd_ne nb]; exact q1, Reps.mono r e ds vs q2⟩
theorem cellL_get {k : Nat} {Q : List D → Prop} (h : cellL S k Q) : ∃ xs, S[k]? = some (.lst xs) ∧ Q xs := by
  unfold cellL at h
  split at h
  · exact ⟨_, by assumption, h⟩
  · exact h.elim
theorem RepS.list (r : RepS G H as S) {k : Nat} {a : Addr} {xs : List D} (h : as[k]? = some a) (q : S[k]? = some (.lst xs)) : ∃ vs, H a = some (.lst vs) ∧ Reps G H as xs vs := r.cell k a _ h q
theorem look_get {i : Nat} {Q : D → Prop} (h : look env i Q) : ∃ d, env[i]? = some (some d) ∧ Q d := by
  unfold look at h
  split at h
  · exact ⟨_, by assumption, h⟩
  · exact h.elim
end
end SD

-- SD5
set_option Elab.async false
set_option linter.all false
set_option maxRecDepth 100000
set_option maxHeartbeats 2000000
namespace SD
open PySem L2
def LOp (G : GC) (f : D → D → Store → QV → Prop) : R2 := fun x y H Q => ∃ (S : Store) (as : List Addr) (dx dy : D) (Qd : QV),
  RepS G H as S ∧ Rep G H as dx x ∧ Rep G H as dy y ∧ f dx dy S Qd ∧ Post G H as Qd Q
section
variable {G : GC} {H : Hp} {as : List Addr} {S : Store} {Qd : QV} {Q : VK}
theorem Post.int (k : Post G H as Qd Q) (hs : RepS G H as S) {n : Int} (h : Qd (.int n) S) : Q (.int n) H := k _ _ _ (.int n) _ (.refl _ _) hs rfl h
theorem Post.bl (k : Post G H as Qd Q) (hs : RepS G H as S) {n : Bool} (h : Qd (.bl n) S) : Q (.bl n) H := k _ _ _ (.bl n) _ (.refl _ _) hs rfl h
theorem Post.str (k : Post G H as Qd Q) (hs : RepS G H as S) {n : Str} (h : Qd (.str n) S) : Q (.str n) H := k _ _ _ (.str n) _ (.refl _ _) hs rfl h
theorem Post.non (k : Post G H as Qd Q) (hs : RepS G H as S) (h : Qd .non S) : Q .non H := k _ _ _ .non _ (.refl _ _) hs rfl h
theorem Post.same (k : Post G H as Qd Q) (hs : RepS G H as S) {d : D} {v : V} (r : Rep G H as d v) (h : Qd d S) : Q v H := k _ _ _ d _ (.refl _ _) hs r h
theorem Post.tup (k : Post G H as Qd Q) (hs : RepS G H as S) {ds : List D} {vs : List V} {p : Addr} (hp : H p = none) (r : Reps G H as ds vs) (h : Qd (.tup ds) S) : Q (.ref p) (upd H p (.tup vs)) :=
  k _ _ _ (.tup ds) _ (Ext.tuple hs hp) (hs.other hp) ⟨p, vs, rfl, .inl (.inl upd_same), Reps.mono hs (Ext.tuple hs hp) _ _ r⟩ h
theorem Post.lst (k : Post G H as Qd Q) (hs : RepS G H as S) {ds : List D} {vs : List V} {p : Addr} (hp : H p = none) (r : Reps G H as ds vs) (h : Qd (.lref S.length) (S ++ [.lst ds])) : Q (.ref p) (upd H p (.lst vs)) :=
  k _ _ _ (.lref S.length) _ (Ext.list hp) (hs.push hp r) (rep_last hs) h
end
section
variable {X : Cx} {G : GC}
theorem SqL.of_tracked {K : PySem.W.Frag} {H : Hp} {a : Addr} {xs : List V} (h : H a = some (.lst xs)) : SqL K H a xs := .inl (.inl h)
theorem lop_add (hK : X.K = G.K) : OpR X (binaryOp .Add) (LOp G addD) := by
  rintro pins s σ H x y v u Q I rx ry ⟨S, as, dx, dy, Qd, hs, hx, hy, h, k⟩
  unfold addD at h
  split at h
  · cases hx; cases hy
    exact op_add pins s σ H _ _ v u Q I rx ry ⟨_, _, rfl, rfl, k.int hs h⟩
  · cases hx; cases hy
    exact op_add_str pins s σ H _ _ v u Q I rx ry ⟨_, _, rfl, rfl, h.1, k.str hs h.2⟩
  · obtain ⟨a, xs, rfl, h1, h2⟩ := hx
    obtain ⟨b, ys, rfl, h3, h4⟩ := hy
    refine op_catA pins s σ H _ _ v u Q I rx ry ⟨a, b, xs, ys, rfl, rfl, hK ▸ h1, hK ▸ h3, by rw [h2.length, h4.length]; exact h.1, fun z => ?_, fun _ z => ?_, fun z1 z2 p hp => ?_⟩
    · subst z
      have e2 := List.eq_nil_of_length_eq_zero h2.length.symm
      subst e2
      exact k.same hs (d := .tup _) ⟨b, ys, rfl, h3, h4⟩ h.2
    · subst z
      have e2 := List.eq_nil_of_length_eq_zero h4.length.symm
      subst e2
      rw [List.append_nil] at h
      exact k.same hs (d := .tup _) ⟨a, xs, rfl, h1, h2⟩ h.2
    · exact k.tup hs hp (h2.append h4) h.2
  · obtain ⟨a, rfl, h1⟩ := hx
    obtain ⟨b, rfl, h3⟩ := hy
    obtain ⟨xs, e1, h⟩ := cellL_get h
    obtain ⟨ys, e2, hz, h⟩ := cellL_get h
    obtain ⟨vs, q1, r1⟩ := hs.list h1 e1
    obtain ⟨ws, q2, r2⟩ := hs.list h3 e2
    refine op_cat pins s σ H _ _ v u Q I rx ry ⟨a, b, vs, ws, rfl, rfl, q1, q2, by rw [r1.length, r2.length]; exact hz, fun p hp => k.lst hs hp (r1.append r2) h⟩
  · exact h.elim
theorem lop_sub : OpR X (binaryOp .Sub) (LOp G subD) := by
  rintro pins s σ H x y v u Q I rx ry ⟨S, as, dx, dy, Qd, hs, hx, hy, h, k⟩
  unfold subD at h
  split at h
  · cases hx; cases hy
    exact op_sub pins s σ H _ _ v u Q I rx ry ⟨_, _, rfl, rfl, k.int hs h⟩
  · cases hx; cases hy
    cases rx; cases ry
    exact PyProof.Rows.sub_bool ⟨.int _, H, I.tok _, ⟨_, rfl⟩, k.int hs h⟩
  · exact h.elim
theorem lop_mul : OpR X (binaryOp .Mult) (LOp G mulD) := by
  rintro pins s σ H x y v u Q I rx ry ⟨S, as, dx, dy, Qd, hs, hx, hy, h, k⟩
  unfold mulD at h
  split at h
  · cases hx; cases hy
    exact op_mulW pins s σ H _ _ v u Q I rx ry ⟨_, _, rfl, rfl, h.1, k.int hs h.2⟩
  · obtain ⟨a, rfl, h1⟩ := hx
    cases hy
    obtain ⟨xs, e1, z1, z2, z3, h⟩ := cellL_get h
    obtain ⟨vs, q1, r1⟩ := hs.list h1 e1
    refine op_rep pins s σ H _ _ v u Q I rx ry ⟨a, _, vs, rfl, rfl, q1, z1, z2, by rw [r1.length]; exact z3, fun p hp => k.lst hs hp (r1.replicate _) h⟩
  · exact h.elim
theorem lop_fdiv : OpR X (binaryOp .FloorDiv) (LOp G fdivD) := by
  rintro pins s σ H x y v u Q I rx ry ⟨S, as, dx, dy, Qd, hs, hx, hy, h, k⟩
  unfold fdivD at h
  split at h
  · cases hx; cases hy
    obtain ⟨t, rfl⟩ := rx
    obtain ⟨t', rfl⟩ := ry
    exact PyProof.Rows.floordiv_int h.1.1 ⟨.int _, H, I.tok _, ⟨_, rfl⟩, k.int hs h.2⟩ (.inl (PyProof.noPylong_of_log2 h.1.2))
  · exact h.elim
theorem lop_mod : OpR X (binaryOp .Mod) (LOp G modD) := by
  rintro pins s σ H x y v u Q I rx ry ⟨S, as, dx, dy, Qd, hs, hx, hy, h, k⟩
  unfold modD at h
  split at h
  · cases hx; cases hy
    exact op_modN pins s σ H _ _ v u Q I rx ry ⟨_, _, rfl, rfl, h.1, k.int hs h.2⟩
  · exact h.elim
theorem lop_pow : OpR X (binaryOp .Pow) (LOp G powD) := by
  rintro pins s σ H x y v u Q I rx ry ⟨S, as, dx, dy, Qd, hs, hx, hy, h, k⟩
  unfold powD at h
  split at h
  · cases hx; cases hy
    exact op_pow pins s σ H _ _ v u Q I rx ry ⟨_, _, rfl, rfl, h.1, k.int hs h.2⟩
  · exact h.elim
theorem lop_of {op : Operator} {f : D → D → Store → QV → Prop} (hK : X.K = G.K) (h : trOp op = some f) : OpR X (binaryOp op) (LOp G f) := by
  cases op <;> cases h
  · exact lop_add hK
  · exact lop_sub
  · exact lop_mul
  · exact lop_mod
  · exact lop_pow
  · exact lop_fdiv
theorem lun_neg : UnR X (unaryOp .USub) (fun x H Q => ∃ (S : Store) (as : List Addr) (dx : D) (Qd : QV), RepS G H as S ∧ Rep G H as dx x ∧ negD dx S Qd ∧ Post G H as Qd Q) := by
  rintro pins s σ H x v Q I rx ⟨S, as, dx, Qd, hs, hx, h, k⟩
  unfold negD at h
  split at h
  · cases hx
    exact un_neg pins s σ H _ v Q I rx ⟨_, rfl, k.int hs h⟩
  · exact h.elim
/-! ### equality -/
mutual
theorem ok_lay : ∀ (n : Nat) (d : D), okD n d = true → (toPy d).canLay0 = true ∧ (toPy d).depth ≤ n
  | _, .non, _ => ⟨rfl, Nat.zero_le _⟩
  | _, .bl _, _ => ⟨rfl, Nat.zero_le _⟩
  | _, .int _, _ => ⟨rfl, Nat.zero_le _⟩
  | _, .str x, h => by
    refine ⟨?_, Nat.zero_le _⟩
    unfold okD at h
    unfold toPy PyData.canLay0
    exact h
  | 0, .tup xs, h => by simp [okD] at h
  | n + 1, .tup xs, h => by
    unfold okD at h
    have z := oks_lay n xs h
    unfold toPy PyData.canLay0 PyData.depth
    exact ⟨z.1, Nat.succ_le_succ z.2⟩
  | n, .lref _, h => by cases n <;> simp [okD] at h
  | n, .fn _, h => by cases n <;> simp [okD] at h
  | n, .scr _, h => by cases n <;> simp [okD] at h
  | n, .exc _ _, h => by cases n <;> simp [okD] at h
theorem oks_lay : ∀ (n : Nat) (ds : List D), okDs n ds = true → PyData.canLayAll0 (toPys ds) = true ∧ PyData.depthAll (toPys ds) ≤ n
  | _, [], _ => ⟨by unfold toPys PyData.canLayAll0; rfl, by unfold toPys PyData.depthAll; exact Nat.zero_le _⟩
  | n, d :: ds, h => by
    unfold okDs at h
    rw [Bool.and_eq_true] at h
    have z1 := ok_lay n d h.1
    have z2 := oks_lay n ds h.2
    unfold toPys PyData.canLayAll0 PyData.depthAll
    exact ⟨by rw [z1.1, z2.1]; rfl, Nat.max_le.mpr ⟨z1.2, z2.2⟩⟩
end
theorem ok_shaped {n : Nat} {d : D} (h : okD n d = true) (hn : n ≤ 64) : SeqAt.shaped (toPy d) = true := by
  have z := ok_lay n d h
  unfold SeqAt.shaped
  rw [z.1, decide_eq_true (Nat.le_trans z.2 hn)]
  rfl
theorem oks_shaped {n : Nat} {ds : List D} (h : okDs n ds = true) (hn : n ≤ 63) : SeqAt.shaped (.list (toPys ds)) = true := by
  have z := oks_lay n ds h
  unfold SeqAt.shaped PyData.canLay0 PyData.depth
  rw [z.1, decide_eq_true (Nat.le_trans (Nat.succ_le_succ z.2) (Nat.succ_le_succ hn))]
  rfl
mutual
theorem eqv_py : ∀ (n m : Nat) (d e : D), okD n d = true → okD m e = true → PyData.eqv (toPy d) (toPy e) = eqD d e
  | n, m, .tup xs, .tup ys, h1, h2 => by
    cases n with
    | zero => simp [okD] at h1
    | succ n =>
      cases m with
      | zero => simp [okD] at h2
      | succ m =>
        unfold okD at h1 h2
        unfold toPy PyData.eqv eqD
        exact eqvs_py n m xs ys h1 h2
  | n, m, .non, e, h1, h2 => by cases e <;> first | (cases m <;> simp [okD] at h2; done) | (simp [toPy, PyData.eqv, eqD])
  | n, m, .bl b, e, h1, h2 => by cases e <;> first | (cases m <;> simp [okD] at h2; done) | (simp [toPy, PyData.eqv, eqD, PyProof.Rows.b2i])
  | n, m, .int b, e, h1, h2 => by cases e <;> first | (cases m <;> simp [okD] at h2; done) | (simp [toPy, PyData.eqv, eqD, PyProof.Rows.b2i])
  | n, m, .str b, e, h1, h2 => by cases e <;> first | (cases m <;> simp [okD] at h2; done) | (simp [toPy, PyData.eqv, eqD])
  | n, m, .tup xs, .non, h1, h2 => by simp [toPy, PyData.eqv, eqD]
  | n, m, .tup xs, .bl _, h1, h2 => by simp [toPy, PyData.eqv, eqD]
  | n, m, .tup xs, .int _, h1, h2 => by simp [toPy, PyData.eqv, eqD]
  | n, m, .tup xs, .str _, h1, h2 => by simp [toPy, PyData.eqv, eqD]
  | n, m, .tup xs, .lref _, h1, h2 => by cases m <;> simp [okD] at h2
  | n, m, .tup xs, .fn _, h1, h2 => by cases m <;> simp [okD] at h2
  | n, m, .tup xs, .scr _, h1, h2 => by cases m <;> simp [okD] at h2
  | n, m, .tup xs, .exc _ _, h1, h2 => by cases m <;> simp [okD] at h2
  | n, m, .lref _, e, h1, h2 => by cases n <;> simp [okD] at h1
  | n, m, .fn _, e, h1, h2 => by cases n <;> simp [okD] at h1
  | n, m, .scr _, e, h1, h2 => by cases n <;> simp [okD] at h1
  | n, m, .exc _ _, e, h1, h2 => by cases n <;> simp [okD] at h1
theorem eqvs_py : ∀ (n m : Nat) (ds es : List D), okDs n ds = true → okDs m es = true → PyData.eqvAll (toPys ds) (toPys es) = eqDs ds es
  | n, m, [], [], _, _ => by simp [toPys, PyData.eqvAll, eqDs]
  | n, m, [], e :: es, _, _ => by simp [toPys, PyData.eqvAll, eqDs]
  | n, m, d :: ds, [], _, _ => by simp [toPys, PyData.eqvAll, eqDs]
  | n, m, d :: ds, e :: es, h1, h2 => by
    unfold okDs at h1 h2
    rw [Bool.and_eq_true] at h1 h2
    unfold toPys PyData.eqvAll eqDs
    rw [eqv_py n m d e h1.1 h2.1, eqvs_py n m ds es h1.2 h2.2]
end
mutual
theorem rep_dp {H : Hp} {as : List Addr} : ∀ (n : Nat) (d : D) (v : V), okD n d = true → Rep G H as d v → Dp G.K H v (toPy d)
  | _, .non, _, _, h => by cases h; exact .non
  | _, .bl b, _, _, h => by cases h; exact .bl b
  | _, .int i, _, _, h => by cases h; exact .int i
  | _, .str x, _, _, h => by cases h; exact .str x
  | 0, .tup xs, _, h, _ => by simp [okD] at h
  | n + 1, .tup xs, _, h, ⟨p, vs, rfl, h1, h2⟩ => by
    unfold okD at h
    exact .tup h1 (reps_dp n xs vs h h2)
  | n, .lref _, _, h, _ => by cases n <;> simp [okD] at h
  | n, .fn _, _, h, _ => by cases n <;> simp [okD] at h
  | n, .scr _, _, h, _ => by cases n <;> simp [okD] at h
  | n, .exc _ _, _, h, _ => by cases n <;> simp [okD] at h
theorem reps_dp {H : Hp} {as : List Addr} : ∀ (n : Nat) (ds : List D) (vs : List V), okDs n ds = true → Reps G H as ds vs → DpAll G.K H vs (toPys ds)
  | _, [], _, _, h => by cases h; exact .nil
  | n, d :: ds, _, h, ⟨v, r, rfl, h1, h2⟩ => by
    unfold okDs at h
    rw [Bool.and_eq_true] at h
    exact .cons (rep_dp n d v h.1 h1) (reps_dp n ds r h.2 h2)
end
end
end SD

-- SD6
set_option Elab.async false
set_option linter.all false
set_option maxRecDepth 100000
set_option maxHeartbeats 2000000
namespace SD
open PySem L2
section
variable {X : Cx} {G : GC} {H : Hp} {as : List Addr} {S : Store}
theorem list_ne (ds : List PyData) : ∀ (m : Nat) (d : D), okD m d = true → PyData.eqv (.list ds) (toPy d) = false ∧ PyData.eqv (toPy d) (.list ds) = false
  | m, .non, _ => by simp [toPy, PyData.eqv]
  | m, .bl _, _ => by simp [toPy, PyData.eqv]
  | m, .int _, _ => by simp [toPy, PyData.eqv]
  | m, .str _, _ => by simp [toPy, PyData.eqv]
  | m, .tup _, _ => by simp [toPy, PyData.eqv]
  | m, .lref _, h => by cases m <;> simp [okD] at h
  | m, .fn _, h => by cases m <;> simp [okD] at h
  | m, .scr _, h => by cases m <;> simp [okD] at h
  | m, .exc _ _, h => by cases m <;> simp [okD] at h
/-- a list of plain data, as data -/
theorem cell_dp (hs : RepS G H as S) {k : Nat} {v : V} {xs : List D} (h : Rep G H as (.lref k) v) (e : S[k]? = some (.lst xs)) (o : okDs 20 xs = true) : Dp G.K H v (.list (toPys xs)) := by
  obtain ⟨a, rfl, ha⟩ := h
  obtain ⟨vs, q, r⟩ := hs.list ha e
  exact .lst (.inl (.inl q)) (reps_dp 20 xs vs o r)
theorem eqK_dp (hs : RepS G H as S) {dx dy : D} {x y : V} {K : Bool → Prop} (hx : Rep G H as dx x) (hy : Rep G H as dy y) (h : eqK0 dx dy S K) :
    ∃ d e, Dp G.K H x d ∧ Dp G.K H y e ∧ SeqAt.shaped d = true ∧ SeqAt.shaped e = true ∧ K (PyData.eqv d e) := by
  unfold eqK0 at h
  split at h
  · obtain ⟨xs, e1, h⟩ := cellL_get h
    obtain ⟨ys, e2, ⟨o1, o2⟩, h⟩ := cellL_get h
    refine ⟨_, _, cell_dp hs hx e1 o1, cell_dp hs hy e2 o2, oks_shaped o1 (by decide), oks_shaped o2 (by decide), ?_⟩
    rw [← eqvs_py 20 20 xs ys o1 o2] at h
    unfold PyData.eqv
    exact h
  · obtain ⟨xs, e1, ⟨o1, o2⟩, h⟩ := cellL_get h
    refine ⟨_, _, cell_dp hs hx e1 o1, rep_dp 20 _ _ o2 hy, oks_shaped o1 (by decide), ok_shaped o2 (by decide), ?_⟩
    rw [(list_ne _ 20 _ o2).1]
    exact h
  · obtain ⟨ys, e2, ⟨o1, o2⟩, h⟩ := cellL_get h
    refine ⟨_, _, rep_dp 20 _ _ o1 hx, cell_dp hs hy e2 o2, ok_shaped o1 (by decide), oks_shaped o2 (by decide), ?_⟩
    rw [(list_ne _ 20 _ o1).2]
    exact h
  · obtain ⟨⟨o1, o2⟩, h⟩ := h
    refine ⟨_, _, rep_dp 20 _ _ o1 hx, rep_dp 20 _ _ o2 hy, ok_shaped o1 (by decide), ok_shaped o2 (by decide), ?_⟩
    rw [eqv_py 20 20 _ _ o1 o2]
    exact h
/-- a comparison over data -/
def cOf (o : COp) : D → D → Store → QV → Prop := fun x y S Q => cmpK o x y S fun k => Q (.bl k) S
theorem flat_rep : ∀ (d : D) (v : V), flatD d = true → Rep G H as d v → flatV v = true
  | .non, _, _, h => by cases h; rfl
  | .bl _, _, _, h => by cases h; rfl
  | .int _, _, _, h => by cases h; rfl
  | .str _, _, _, h => by cases h; rfl
  | .tup _, _, h, _ => by simp [flatD] at h
  | .lref _, _, h, _ => by simp [flatD] at h
  | .fn _, _, h, _ => by simp [flatD] at h
  | .scr _, _, h, _ => by simp [flatD] at h
  | .exc _ _, _, h, _ => by simp [flatD] at h
theorem flat_reps : ∀ (ds : List D) (vs : List V), ds.all flatD = true → Reps G H as ds vs → vs.all flatV = true
  | [], _, _, h => by cases h; rfl
  | d :: ds, _, h, ⟨v, r, rfl, h1, h2⟩ => by
    rw [List.all_cons, Bool.and_eq_true] at h
    rw [List.all_cons, flat_rep d v h.1 h1, flat_reps ds r h.2 h2]
    rfl
theorem flat_eq : ∀ (d e : D) (v w : V), flatD d = true → flatD e = true → Rep G H as d v → Rep G H as e w → eqV v w = eqD d e
  | d, e, v, w, h1, h2, r1, r2 => by
    cases d <;> first | (simp [flatD] at h1; done) | skip
    all_goals (cases e <;> first | (simp [flatD] at h2; done) | skip)
    all_goals (cases r1; cases r2; simp [eqV, eqD, PyProof.Rows.b2i])
theorem flat_in {dx : D} {x : V} (h1 : flatD dx = true) (r1 : Rep G H as dx x) : ∀ (ds : List D) (vs : List V), ds.all flatD = true → Reps G H as ds vs → (vs.any fun y => eqV y x) = ds.any fun y => eqD y dx
  | [], _, _, h => by cases h; rfl
  | d :: ds, _, h, ⟨v, r, rfl, h2, h3⟩ => by
    rw [List.all_cons, Bool.and_eq_true] at h
    rw [List.any_cons, List.any_cons, flat_eq d dx v x h.1 h1 h2 r1, flat_in h1 r1 ds r h.2 h3]
theorem any_py {dx : D} (h1 : okD 20 dx = true) : ∀ (ds : List D), okDs 20 ds = true → ((toPys ds).any fun z => PyData.eqv z (toPy dx)) = ds.any fun y => eqD y dx
  | [], _ => by simp [toPys]
  | d :: ds, h => by
    unfold okDs at h
    rw [Bool.and_eq_true] at h
    unfold toPys
    rw [List.any_cons, List.any_cons, eqv_py 20 20 d dx h.1 h1, any_py h1 ds h.2]
theorem inK_run (hK : X.K = G.K) (hu : X.A.units + 65 < cLine) (neg : Bool) : OpR X (compareOp (if neg then .NotIn else .In)) (LOp G fun x y S Q => inK x y S fun b => Q (.bl (if neg then !b else b)) S) := by
  rintro pins s σ H x y v u Q I rx ry ⟨S, as, dx, dy, Qd, hs, hx, hy, h, k⟩
  unfold inK at h
  split at h
  · obtain ⟨p, vs, rfl, h1, h2⟩ := hy
    obtain ⟨⟨f1, f2⟩, h⟩ := h
    have e : inV x vs = _ := flat_in f1 hx _ vs f2 h2
    cases neg with
    | false =>
      refine op_in_seq pins s σ H _ _ v u Q I rx ry ⟨p, vs, rfl, .inr (hK ▸ h1), flat_rep _ _ f1 hx, flat_reps _ _ f2 h2, ?_⟩
      rw [e]
      exact k.bl hs h
    | true =>
      refine op_notIn_seq pins s σ H _ _ v u Q I rx ry ⟨p, vs, rfl, .inr (hK ▸ h1), flat_rep _ _ f1 hx, flat_reps _ _ f2 h2, ?_⟩
      rw [e]
      exact k.bl hs h
  · obtain ⟨ys, e2, ⟨o1, o2⟩, h⟩ := cellL_get h
    have e := any_py o1 ys o2
    have l := cell_dp hs hy e2 o2
    cases neg with
    | false =>
      refine op_inD hu pins s σ H _ _ v u Q I rx ry ⟨_, _, hK ▸ rep_dp 20 _ _ o1 hx, hK ▸ l, ok_shaped o1 (by decide), oks_shaped o2 (by decide), ?_⟩
      rw [e]
      exact k.bl hs h
    | true =>
      refine op_notInD hu pins s σ H _ _ v u Q I rx ry ⟨_, _, hK ▸ rep_dp 20 _ _ o1 hx, hK ▸ l, ok_shaped o1 (by decide), oks_shaped o2 (by decide), ?_⟩
      rw [e]
      exact k.bl hs h
  · cases hx; cases hy
    cases neg with
    | false => exact op_in_str pins s σ H _ _ v u Q I rx ry ⟨_, _, rfl, rfl, k.bl hs h⟩
    | true => exact op_notIn_str pins s σ H _ _ v u Q I rx ry ⟨_, _, rfl, rfl, k.bl hs h⟩
  · exact h.elim
theorem isK_run (neg : Bool) : OpR X (compareOp (if neg then .IsNot else .Is)) (LOp G fun x y S Q => isK x y S fun b => Q (.bl (if neg then !b else b)) S) := by
  rintro pins s σ H x y v u Q I rx ry ⟨S, as, dx, dy, Qd, hs, hx, hy, h, k⟩
  have isn : ∀ b : Bool, decide (x = V.non) = b → y = .non → Qd (.bl (if neg then !b else b)) S → wpAny (model X.prog X.w) X.A (compareOp (if neg then .IsNot else .Is) v u) (EP X pins σ Q) X.xe s := by
    intro b e hy q
    cases neg with
    | false => exact op_isN pins s σ H _ _ v u Q I rx ry ⟨hy, by rw [e]; exact k.bl hs q⟩
    | true => exact op_notN pins s σ H _ _ v u Q I rx ry ⟨hy, by rw [e]; exact k.bl hs q⟩
  unfold isK at h
  split at h
  · cases hx; exact isn true (by simp) hy h
  · cases hx; exact isn false (by simp) hy h
  · cases hx; exact isn false (by simp) hy h
  · cases hx; exact isn false (by simp) hy h
  · obtain ⟨p, vs, rfl, _⟩ := hx; exact isn false (by simp) hy h
  · obtain ⟨p, rfl, _⟩ := hx; exact isn false (by simp) hy h
  · cases hx; cases hy
    cases neg with
    | false => exact op_is_bl pins s σ H _ _ v u Q I rx ry ⟨_, _, rfl, rfl, k.bl hs h⟩
    | true => exact op_isnot_bl pins s σ H _ _ v u Q I rx ry ⟨_, _, rfl, rfl, k.bl hs h⟩
  · exact h.elim
theorem cmp_run (hK : X.K = G.K) (hu : X.A.units + 65 < cLine) {op : CmpOp} {o : COp} (h : trCOp op = some o) : OpR X (compareOp op) (LOp G (cOf o)) := by
  cases op <;> cases h
  · rintro pins s σ H x y v u Q I rx ry ⟨S, as, dx, dy, Qd, hs, hx, hy, h, k⟩
    replace h : eqK dx dy S (fun k => Qd (.bl (k)) S) := h
    unfold eqK at h
    split at h
    · cases hx; cases hy
      exact op_eq pins s σ H _ _ v u Q I rx ry ⟨rfl, by rw [show ∀ a b : Str, decide (V.str a = V.str b) = decide (a = b) from fun a b => by simp]; exact k.bl hs h⟩
    obtain ⟨d, e, p1, p2, s1, s2, q⟩ := eqK_dp hs hx hy h
    exact op_eqD (by omega) pins s σ H _ _ v u Q I rx ry ⟨d, e, hK ▸ p1, hK ▸ p2, s1, s2, k.bl hs q⟩
  · rintro pins s σ H x y v u Q I rx ry ⟨S, as, dx, dy, Qd, hs, hx, hy, h, k⟩
    replace h : eqK dx dy S (fun k => Qd (.bl (!k)) S) := h
    unfold eqK at h
    split at h
    · cases hx; cases hy
      exact op_ne pins s σ H _ _ v u Q I rx ry ⟨rfl, by rw [show ∀ a b : Str, decide (V.str a = V.str b) = decide (a = b) from fun a b => by simp]; exact k.bl hs h⟩
    obtain ⟨d, e, p1, p2, s1, s2, q⟩ := eqK_dp hs hx hy h
    exact op_neD (by omega) pins s σ H _ _ v u Q I rx ry ⟨d, e, hK ▸ p1, hK ▸ p2, s1, s2, k.bl hs q⟩
  · rintro pins s σ H x y v u Q I rx ry ⟨S, as, dx, dy, Qd, hs, hx, hy, h, k⟩
    replace h : ltK dx dy S (fun k => Qd (.bl k) S) := h
    unfold ltK at h
    split at h
    · cases hx; cases hy
      exact op_lt pins s σ H _ _ v u Q I rx ry ⟨_, _, rfl, rfl, k.bl hs h⟩
    · exact h.elim
  · rintro pins s σ H x y v u Q I rx ry ⟨S, as, dx, dy, Qd, hs, hx, hy, h, k⟩
    replace h : leK dx dy S (fun k => Qd (.bl k) S) := h
    unfold leK at h
    split at h
    · cases hx; cases hy
      exact op_le pins s σ H _ _ v u Q I rx ry ⟨_, _, rfl, rfl, k.bl hs h⟩
    · exact h.elim
  · rintro pins s σ H x y v u Q I rx ry ⟨S, as, dx, dy, Qd, hs, hx, hy, h, k⟩
    replace h : ltK dy dx S (fun k => Qd (.bl k) S) := h
    unfold ltK at h
    split at h
    · cases hx; cases hy
      exact op_gt pins s σ H _ _ v u Q I rx ry ⟨_, _, rfl, rfl, k.bl hs h⟩
    · exact h.elim
  · rintro pins s σ H x y v u Q I rx ry ⟨S, as, dx, dy, Qd, hs, hx, hy, h, k⟩
    replace h : leK dy dx S (fun k => Qd (.bl k) S) := h
    unfold leK at h
    split at h
    · cases hx; cases hy
      exact op_ge pins s σ H _ _ v u Q I rx ry ⟨_, _, rfl, rfl, k.bl hs h⟩
    · exact h.elim
  · exact isK_run false
  · exact isK_run true
  · exact inK_run hK hu false
  · exact inK_run hK hu true
/-! ### truth -/
theorem truth_tru (hs : RepS G H as S) {dx : D} {x : V} {K : Bool → Prop} (hx : Rep G H as dx x) (h : truthD dx S K) : ∃ k, TruV G.K x H k ∧ K k := by
  unfold truthD at h
  split at h
  · cases hx; exact ⟨_, rfl, h⟩
  · cases hx; exact ⟨_, rfl, h⟩
  · cases hx; exact ⟨_, rfl, h⟩
  · cases hx
    refine ⟨_, ⟨h.1, rfl⟩, ?_⟩
    have e : ∀ n : Nat, ((n : Int) != 0) = (n != 0) := fun n => by cases n <;> rfl
    rw [e]
    exact h.2
  · obtain ⟨p, vs, rfl, h1, h2⟩ := hx
    refine ⟨_, .inr (.inl ⟨vs, h1, rfl⟩), ?_⟩
    have e := h2.length
    rename_i xs
    cases vs <;> cases xs <;> first | exact h | simp at e
  · obtain ⟨p, rfl, h1⟩ := hx
    obtain ⟨xs, e1, h⟩ := cellL_get h
    obtain ⟨vs, q1, r1⟩ := hs.list h1 e1
    refine ⟨_, .inl ⟨vs, .inl (.inl q1), rfl⟩, ?_⟩
    have e := r1.length
    cases vs <;> cases xs <;> first | exact h | simp at e
  · exact h.elim
/-! ### subscripts -/
theorem atI_rep {ds : List D} {vs : List V} (r : Reps G H as ds vs) {i : Int} {d : D} (h : atI ds i = some d) : ∃ v, atI vs i = some v ∧ Rep G H as d v := by
  unfold atI at h ⊢
  rw [r.length]
  cases e : ixN ds.length i with
  | none => rw [e] at h; cases h
  | some j =>
    rw [e] at h
    exact r.get h
theorem ix_run (hK : X.K = G.K) : IxR X (LOp G ixD) := by
  rintro value slice pins s σ H x y v u Q I rx ry ⟨S, as, dx, dy, Qd, hs, hx, hy, h, k⟩ hsl
  unfold ixD at h
  split at h
  · cases hy
    obtain ⟨p, vs, rfl, h1, h2⟩ := hx
    split at h
    · rename_i d e
      obtain ⟨w, q1, q2⟩ := atI_rep h2 e
      exact ix_tup value slice pins s σ H _ _ v u Q I rx ry ⟨p, vs, _, w, rfl, rfl, hK ▸ h1, q1, k.same hs q2 h⟩ hsl
    · exact h.elim
  · cases hy
    obtain ⟨p, rfl, h1⟩ := hx
    obtain ⟨xs, e1, h⟩ := cellL_get h
    obtain ⟨vs, p1, p2⟩ := hs.list h1 e1
    split at h
    · rename_i d e
      obtain ⟨w, q1, q2⟩ := atI_rep p2 e
      exact ix_list value slice pins s σ H _ _ v u Q I rx ry ⟨p, vs, _, w, rfl, rfl, .inl (.inl p1), q1, k.same hs q2 h⟩ hsl
    · exact h.elim
  · cases hx; cases hy
    obtain ⟨hz, h⟩ := h
    split at h
    · rename_i c e
      exact ix_str value slice pins s σ H _ _ v u Q I rx ry ⟨_, _, c, rfl, rfl, hz, e, k.str hs h⟩ hsl
    · exact h.elim
  · exact h.elim
theorem cut_rep {ds : List D} {vs : List V} (r : Reps G H as ds vs) (lo hi : Option Int) : Reps G H as (cut ds lo hi) (cutV vs lo hi) := by
  unfold cut cutV
  rw [r.length]
  exact (r.drop _).take _
theorem slice_run (hK : X.K = G.K) : SlR X (fun x lo hi H Q => ∃ (S : Store) (as : List Addr) (dx : D) (Qd : QV), RepS G H as S ∧ Rep G H as dx x ∧ sliceD dx lo hi S Qd ∧ Post G H as Qd Q) := by
  rintro pins s σ H x v vl vu lo hi sl Q I rx hsl pl pu ⟨S, as, dx, Qd, hs, hx, h, k⟩
  unfold sliceD at h
  split at h
  · obtain ⟨p, vs, rfl, h1, h2⟩ := hx
    refine sl_tupA pins s σ H _ v vl vu lo hi sl Q I rx hsl pl pu ⟨p, vs, rfl, hK ▸ h1, fun z => ?_, fun z q hq => ?_⟩
    · rw [h2.length] at z
      rw [if_pos z] at h
      exact k.same hs (d := .tup _) ⟨p, vs, rfl, h1, h2⟩ h
    · rw [h2.length] at z
      rw [if_neg z] at h
      exact k.tup hs hq (cut_rep h2 lo hi) h
  · obtain ⟨p, rfl, h1⟩ := hx
    obtain ⟨xs, e1, h⟩ := cellL_get h
    obtain ⟨vs, p1, p2⟩ := hs.list h1 e1
    exact sl_list pins s σ H _ v vl vu lo hi sl Q I rx hsl pl pu ⟨p, vs, rfl, .inl (.inl p1), fun q hq => k.lst hs hq (cut_rep p2 lo hi) h⟩
  · obtain ⟨p, rfl, h1⟩ := hx
    have hl : SqL X.K H p _ := hK ▸ (by
      rcases h1 with ⟨o, h1⟩ | h1
      · exact .inl (.inr ⟨o, h1⟩)
      · rcases h1 with h1 | h1
        · rcases h1 with h1 | ⟨o, h1⟩ <;> cases h1
        · exact .inr h1 : SqL G.K H p _)
    refine sl_list pins s σ H _ v vl vu lo hi sl Q I rx hsl pl pu ⟨p, _, rfl, hl, fun q hq => k.lst hs hq ?_ h⟩
    unfold cut cutV
    rw [List.length_map, ← List.map_drop, ← List.map_take]
    exact Reps.ints _
  · exact h.elim
end
end SD

-- SD7
set_option Elab.async false
set_option linter.all false
set_option maxRecDepth 100000
set_option maxHeartbeats 2000000
namespace SD
open PySem L2
/-! ### built-ins by values -/
def LB (G : GC) (f : D → Store → QV → Prop) : List V → Hp → VK → Prop := fun xs H Q => ∃ (S : Store) (as : List Addr) (dx : D) (x : V) (Qd : QV), xs = [x] ∧ RepS G H as S ∧ Rep G H as dx x ∧ f dx S Qd ∧ Post G H as Qd Q
section
variable {X : Cx} {G : GC} {H : Hp} {as : List Addr} {S : Store}
theorem b_len (hK : X.K = G.K) : CallR X (.builtin "len") (LB G lenD) := by
  rintro pins s σ H xs us Q I r ⟨S, as, dx, x, Qd, rfl, hs, hx, h, k⟩
  unfold lenD at h
  split at h
  · cases hx
    exact call_len pins s σ H _ us Q I r ⟨_, _, rfl, ⟨h.1, rfl⟩, k.int hs h.2⟩
  · obtain ⟨p, vs, rfl, h1, h2⟩ := hx
    exact call_len pins s σ H _ us Q I r ⟨_, _, rfl, .inr ⟨vs, hK ▸ h1, rfl⟩, k.int hs (by rw [h2.length]; exact h)⟩
  · obtain ⟨p, rfl, h1⟩ := hx
    obtain ⟨ds, e1, h⟩ := cellL_get h
    obtain ⟨vs, q1, r1⟩ := hs.list h1 e1
    exact call_len pins s σ H _ us Q I r ⟨_, _, rfl, .inl ⟨vs, .inl (.inl q1), rfl⟩, k.int hs (by rw [r1.length]; exact h)⟩
  · exact h.elim
theorem b_repr (hK : X.K = G.K) (hu : X.A.units + 65 < cLine) (hg : X.A.guards = some []) : CallR X (.builtin "repr") (LB G reprD) := by
  rintro pins s σ H xs us Q I r ⟨S, as, dx, x, Qd, rfl, hs, hx, h, k⟩
  have fin : ∀ {p : PyData} {u : Value}, Dp X.K H x p → RelV x u → p.canLay0 = true → p.depth ≤ 21 → shD p → Qd (.str p.shown) S → wpAny (model X.prog X.w) X.A (call (.builtin "repr") [u]) (EP X pins σ Q) X.xe s := by
    intro p u hd ru hl hdp hsh q
    obtain ⟨as', rd⟩ := Dp.reads I p x u hd ru
    have e : ∀ {h' : Heap} {t tk : Tok}, (∀ b o, s.heap.get? b = some o → h'.get? b = some o) → EP X pins σ Q (.str p.shown t) { s with heap := h', toks := tk } := fun {h' t tk} hk => ⟨.str p.shown, H, I.kept (t' := tk) hk, ⟨t, rfl⟩, k.str hs q⟩
    cases rd with
    | none => exact PySem.P.repr_of_none (e (h' := s.heap) fun _ _ z => z)
    | bool b => exact PySem.P.repr_of_bool (e (h' := s.heap) fun _ _ z => z)
    | int i t => exact PySem.P.repr_of_int (of_decide_eq_true (show decide (i.natAbs.log2 < 1920) = true from by have := hsh.1; simpa only [PyData.showable] using this)) (e (h' := s.heap) fun _ _ z => z)
    | str y t => exact PySem.P.repr_of_str (e (h' := s.heap) fun _ _ z => z) hsh.2
    | list h1 h2 h3 h4 => exact repr_of_reads' (.list h1 h2 h3 h4) hsh.1 (PyData.noDict_hsm (PyData.hasDict_of_canLay _ hl)) hg (by omega) (fun _ _ z => z) (fun h' u tk hk => e hk) hsh.2
    | tuple h1 h2 h3 h4 => exact repr_of_reads' (.tuple h1 h2 h3 h4) hsh.1 (PyData.noDict_hsm (PyData.hasDict_of_canLay _ hl)) hg (by omega) (fun _ _ z => z) (fun h' u tk hk => e hk) hsh.2
    | dict h1 h2 h3 h4 h5 => cases hd
  cases r with
  | cons rx rr =>
    cases rr
    have plain : ∀ {d : D}, okD 20 d = true → shD (toPy d) → Rep G H as d x → Qd (.str (toPy d).shown) S → wpAny (model X.prog X.w) X.A (call (.builtin "repr") [_]) (EP X pins σ Q) X.xe s := fun {d} h1 h2 h3 h4 =>
      fin (hK ▸ rep_dp 20 d x h1 h3) rx (ok_lay 20 d h1).1 (Nat.le_succ_of_le (ok_lay 20 d h1).2) h2 h4
    unfold reprD at h
    split at h
    · obtain ⟨p, rfl, h1⟩ := hx
      obtain ⟨ds, e1, h⟩ := cellL_get h
      obtain ⟨vs, q1, r1⟩ := hs.list h1 e1
      obtain ⟨⟨h2, h3⟩, h4⟩ := h
      have l := oks_lay 20 ds h2
      refine fin (p := .list (toPys ds)) (.lst (.inl (.inl q1)) (hK ▸ reps_dp 20 ds vs h2 r1)) rx (by simpa only [PyData.canLay0] using l.1) (by simp only [PyData.depth]; omega) h3 h4
    · exact plain h.1.1 h.1.2 hx h.2
theorem b_abs : CallR X (.builtin "abs") (LB G absD) := by
  rintro pins s σ H xs us Q I r ⟨S, as, dx, x, Qd, rfl, hs, hx, h, k⟩
  unfold absD at h
  split at h
  · cases hx
    exact call_abs pins s σ H _ us Q I r ⟨_, rfl, k.int hs h⟩
  · exact h.elim
theorem b_int : CallR X (.type "int") (LB G intD) := by
  rintro pins s σ H xs us Q I r ⟨S, as, dx, x, Qd, rfl, hs, hx, h, k⟩
  unfold intD at h
  split at h
  · cases hx
    exact call_int1 pins s σ H _ us Q I r (.inl ⟨_, rfl, k.int hs h⟩)
  · cases hx
    exact call_int1 pins s σ H _ us Q I r (.inr ⟨_, rfl, k.int hs h⟩)
  · exact h.elim
theorem b_tuple (hK : X.K = G.K) : CallR X (.type "tuple") (LB G tupleD) := by
  rintro pins s σ H xs us Q I r ⟨S, as, dx, x, Qd, rfl, hs, hx, h, k⟩
  unfold tupleD at h
  split at h
  · obtain ⟨p, vs, rfl, h1, h2⟩ := hx
    exact call_tuple_of pins s σ H _ us Q I r ⟨p, vs, rfl, .inr ⟨hK ▸ h1, k.same hs (d := .tup _) ⟨p, vs, rfl, h1, h2⟩ h⟩⟩
  · obtain ⟨p, rfl, h1⟩ := hx
    obtain ⟨ds, e1, h⟩ := cellL_get h
    obtain ⟨vs, q1, r1⟩ := hs.list h1 e1
    exact call_tuple_of pins s σ H _ us Q I r ⟨p, vs, rfl, .inl ⟨.inl (.inl q1), fun l hl => k.tup hs hl r1 h⟩⟩
  · exact h.elim
theorem b_list (hK : X.K = G.K) : CallR X (.type "list") (LB G listD) := by
  rintro pins s σ H xs us Q I r ⟨S, as, dx, x, Qd, rfl, hs, hx, h, k⟩
  unfold listD at h
  split at h
  · obtain ⟨p, vs, rfl, h1, h2⟩ := hx
    exact call_list_of pins s σ H _ us Q I r ⟨p, vs, rfl, .inr (hK ▸ h1), fun l hl => k.lst hs hl h2 h⟩
  · obtain ⟨p, rfl, h1⟩ := hx
    obtain ⟨ds, e1, h⟩ := cellL_get h
    obtain ⟨vs, q1, r1⟩ := hs.list h1 e1
    exact call_list_of pins s σ H _ us Q I r ⟨p, vs, rfl, .inl (.inl (.inl q1)), fun l hl => k.lst hs hl r1 h⟩
  · exact h.elim
/-- the class that isinstance looks at -/
theorem tyX_of (hs : RepS G H as S) {dx : D} {x : V} (hx : Rep G H as dx x) {t : String} (h : tyD dx = some t) : TyX G.K H x (.type t) := by
  cases dx with
  | non => cases h; cases hx; exact .base .non
  | bl b => cases h; cases hx; exact .base (.bl b)
  | int i => cases h; cases hx; exact .base (.int i)
  | str z => cases h; cases hx; exact .base (.str z)
  | tup ds =>
    cases h
    obtain ⟨p, vs, rfl, h1, h2⟩ := hx
    rcases h1 with (h1 | ⟨o, h1⟩) | ⟨o, its, n, h1, h2, _⟩
    · exact .base (.tup h1)
    · exact .fTuple h1
    · exact .kTuple h1 h2
  | lref j =>
    cases h
    obtain ⟨p, rfl, h1⟩ := hx
    obtain ⟨xs, q⟩ := hs.lists (List.mem_of_getElem? h1)
    exact .base (.lst q)
  | fn _ => cases h
  | scr _ => cases h
  | exc _ _ => cases h
theorem kit_tab : ∀ t ∈ ["NoneType", "bool", "int", "str", "tuple", "list"], ∀ u ∈ ["int", "bool", "str", "tuple", "list"], kitB t u = some (isTy t u) := by decide +kernel
theorem tyD_mem {d : D} {t : String} (h : tyD d = some t) : t ∈ ["NoneType", "bool", "int", "str", "tuple", "list"] := by
  cases d <;> first | (cases h; done) | (cases h; simp)
theorem b_isa (hK : X.K = G.K) {u : String} (hu : u ∈ ["int", "bool", "str", "tuple", "list"]) : CallR X (.builtin "isinstance") (fun xs H Q => ∃ (S : Store) (as : List Addr) (dx : D) (x : V) (Qd : QV), xs = [x, .ty u] ∧ RepS G H as S ∧ Rep G H as dx x ∧ isaD [u] dx S Qd ∧ Post G H as Qd Q) := by
  rintro pins s σ H xs us Q I r ⟨S, as, dx, x, Qd, rfl, hs, hx, h, k⟩
  unfold isaD at h
  split at h
  · rename_i t e
    have h' : Qd (.bl (isTy t u)) S := by simpa using h
    exact call_isi pins s σ H _ us Q I r ⟨x, .ty u, .type t, .type u, _, rfl, .ty u, hK ▸ tyX_of hs hx e, kit_ty (kit_tab t (tyD_mem e) u hu), k.bl hs h'⟩
  · exact h.elim
/-! ### all, any -/
theorem truths_len : ∀ {ds : List D} {bs : List Bool}, truths ds = some bs → bs.length = ds.length
  | [], _, e => by cases e; rfl
  | d :: ds, bs, e => by
    unfold truths at e
    split at e
    · rename_i q
      cases e
      rw [List.length_cons, List.length_cons, truths_len q]
    · cases e
theorem truths_get : ∀ {ds : List D} {bs : List Bool} {i : Nat} {d : D}, truths ds = some bs → ds[i]? = some d → ∃ b, flatT d = some b ∧ bs[i]? = some b
  | [], _, _, _, _, h => by simp at h
  | d :: ds, bs, i, d', e, h => by
    unfold truths at e
    split at e
    · rename_i q1 q2
      cases e
      cases i with
      | zero => simp at h; subst h; exact ⟨_, q1, rfl⟩
      | succ i => simpa using truths_get (i := i) q2 (by simpa using h)
    · cases e
theorem truth_flats {ds : List D} {vs : List V} {its : List Value} {bs : List Bool} (e : truths ds = some bs) (h : Reps G H as ds vs) (r : Vals vs its) {P : Program} {w : World} {A : Around} :
    TruthOf P w A (fun i v => its.toArray[i]? = some v) (fun i => bs.getD i false) := fun i v s Q E hv hq => by
  have hv' : its[i]? = some v := by simpa using hv
  have hi : i < ds.length := by
    have h1 := (List.getElem?_eq_some_iff.mp hv').1
    have h2 := r.length
    have h3 := h.length
    omega
  have hd : ds[i]? = some ds[i] := List.getElem?_eq_getElem hi
  obtain ⟨x, q1, q2⟩ := h.get hd
  obtain ⟨u, q3, q4⟩ := r.get q1
  rw [hv'] at q3
  cases q3
  obtain ⟨b, q5, q6⟩ := truths_get e hd
  have hg : bs.getD i false = b := by rw [List.getD_eq_getElem?_getD, q6] <;> rfl
  have hq' : Q (bs.getD i false) s := hq
  rw [hg] at hq'
  revert q2 q5
  cases ds[i] with
  | non => intro q2 q5; cases q5; cases q2; cases q4; exact wpAny_of_eq rfl hq'
  | bl c => intro q2 q5; cases q5; cases q2; cases q4; exact wpAny_truthy_bool hq'
  | int n => intro q2 q5; cases q5; cases q2; obtain ⟨t, rfl⟩ := q4; exact PyProof.Rows.truthy_int hq'
  | str _ => intro _ q5; cases q5
  | tup _ => intro _ q5; cases q5
  | lref _ => intro _ q5; cases q5
  | fn _ => intro _ q5; cases q5
  | scr _ => intro _ q5; cases q5
  | exc _ _ => intro _ q5; cases q5
/-- any(xs), all(xs) of a new list of flat items -/
def rAnyF (G : GC) (op : List Bool → Bool) : List V → Hp → VK → Prop := fun vs H Q => ∃ (a : Addr) (xs : List V) (as : List Addr) (ds : List D) (bs : List Bool), vs = [V.ref a] ∧ H a = some (.lst xs) ∧ Reps G H as ds xs ∧ truths ds = some bs ∧ Q (.bl (op bs)) H
theorem b_any (hc : X.calm = true) : CallR X (.builtin "any") (rAnyF G fun bs => bs.any id) := by
  rintro pins s σ H vs us Q I r ⟨a, xs, as, ds, bs, rfl, hl, hr, hb, q⟩
  obtain ⟨its, rv, li, _⟩ := I.list (xs := xs) (.inl (.inl hl))
  rw [Vals.ref1 r]
  refine call_any_walk (iter_any li.isList fun s₂ e2 st hne => ?_)
  subst e2
  refine ⟨_, _, _, _, _, _, _, rfl, Walks.list (A := X.A.in1) (I.ok.hd hc) _ a hne its.toArray, st, truth_flats hb hr rv, fun h' tk hk => ⟨.bl _, H, I.kept fun b o eo => hk b o (fun hm => ?_) (Heap.get?_push_of_some _ eo), ?_, q⟩⟩
  · rcases List.mem_cons.mp hm with e1 | hm
    · exact Nat.lt_irrefl _ (e1 ▸ Heap.lt_size eo)
    · cases hm
  · show Value.bool _ = Value.bool _
    have e : its.toArray.size = bs.length := by rw [List.size_toArray, ← rv.length, hr.length, truths_len hb]
    rw [e, any_range]
theorem b_all (hc : X.calm = true) : CallR X (.builtin "all") (rAnyF G fun bs => bs.all id) := by
  rintro pins s σ H vs us Q I r ⟨a, xs, as, ds, bs, rfl, hl, hr, hb, q⟩
  obtain ⟨its, rv, li, _⟩ := I.list (xs := xs) (.inl (.inl hl))
  rw [Vals.ref1 r]
  refine call_all_walk (iter_any li.isList fun s₂ e2 st hne => ?_)
  subst e2
  refine ⟨_, _, _, _, _, _, _, rfl, Walks.list (A := X.A.in1) (I.ok.hd hc) _ a hne its.toArray, st, truth_flats hb hr rv, fun h' tk hk => ⟨.bl _, H, I.kept fun b o eo => hk b o (fun hm => ?_) (Heap.get?_push_of_some _ eo), ?_, q⟩⟩
  · rcases List.mem_cons.mp hm with e1 | hm
    · exact Nat.lt_irrefl _ (e1 ▸ Heap.lt_size eo)
    · cases hm
  · show Value.bool _ = Value.bool _
    have e : its.toArray.size = bs.length := by rw [List.size_toArray, ← rv.length, hr.length, truths_len hb]
    rw [e, all_range]
/-- xs.append(y) -/
theorem m_append : MtM X "list.append" (fun x vs H Q => ∃ (S : Store) (as : List Addr) (dx dy : D) (y : V) (Qd : QV), vs = [y] ∧ RepS G H as S ∧ Rep G H as dx x ∧ Rep G H as dy y ∧ appendD dx dy S Qd ∧ Post G H as Qd Q) := by
  rintro pins s σ H x vs v us Q I rx r ⟨S, as, dx, dy, y, Qd, rfl, hs, hx, hy, h, k⟩
  unfold appendD at h
  split at h
  · obtain ⟨p, rfl, h1⟩ := hx
    obtain ⟨ds, e1, hz, h⟩ := cellL_get h
    obtain ⟨ws, q1, r1⟩ := hs.list h1 e1
    have rr : Reps G H as (ds ++ [dy]) (ws ++ [y]) := r1.append ⟨y, [], rfl, hy, rfl⟩
    exact mt_append pins s σ H _ _ v us Q I rx r ⟨p, ws, y, rfl, rfl, q1, by rw [r1.length]; exact hz, k _ _ _ .non _ (Ext.put h1) (hs.put h1 rr) rfl h⟩
  · exact h.elim
/-- xs[i] = y -/
theorem set_run : PSet X (fun o i v H Q => ∃ (S : Store) (as : List Addr) (dx di d : D) (Qd : Store → Prop), RepS G H as S ∧ Rep G H as dx o ∧ Rep G H as di i ∧ Rep G H as d v ∧ setD dx di d S Qd ∧ ∀ H' S', Ext H as H' as → RepS G H' as S' → Qd S' → Q H') := by
  have base := set_list (X := X)
  unfold PSet at base ⊢
  intro pins s σ H o i v uo ui uv Q I ro ri rv h
  obtain ⟨S, as, dx, di, d, Qd, hs, hx, hi, hd, h, k⟩ := h
  refine base pins s σ H o i v uo ui uv Q I ro ri rv ?_
  unfold setD at h
  split at h
  · obtain ⟨p, rfl, h1⟩ := hx
    cases hi
    obtain ⟨ds, e1, h⟩ := cellL_get h
    obtain ⟨ws, q1, r1⟩ := hs.list h1 e1
    split at h
    · rename_i j e
      exact ⟨p, ws, _, j, rfl, rfl, q1, by rw [r1.length]; exact e, k _ _ (Ext.put h1) (hs.put h1 (r1.set j hd)) h⟩
    · exact h.elim
  · exact h.elim
end
end SD

-- SD8
set_option Elab.async false
set_option linter.all false
set_option maxRecDepth 100000
set_option maxHeartbeats 2000000
namespace SD
open PySem L2
/-! ### what is walked -/
structure IterOk (G : GC) (J : It) (ds : List D) (keep : Store → Prop) (H0 : Hp) (as0 : List Addr) : Prop where
  go : ∀ i H as S, Ext H0 as0 H as → RepS G H as S → keep S → i < ds.length → J.go i H
  yld : ∀ i H as S x H' d, Ext H0 as0 H as → RepS G H as S → keep S → J.yld i H x H' → ds[i]? = some d → Ext H as H' as ∧ RepS G H' as S ∧ Rep G H' as d x
  stop : ∀ H as S, Ext H0 as0 H as → RepS G H as S → keep S → J.stop ds.length H
theorem IterOk.later {G : GC} {J : It} {ds : List D} {keep : Store → Prop} {H0 H1 : Hp} {as0 as1 : List Addr} (o : IterOk G J ds keep H0 as0) (e : Ext H0 as0 H1 as1) : IterOk G J ds keep H1 as1 :=
  ⟨fun i H as S f => o.go i H as S (e.trans f), fun i H as S x H' d f => o.yld i H as S x H' d (e.trans f), fun H as S f => o.stop H as S (e.trans f)⟩
def LI (G : GC) (W : WX) (t : SI) : TI := fun σ H R => ∃ (env : Env) (S : Store) (as : List Addr) (E : QX) (Qi : List D → (Store → Prop) → Store → Prop),
  RepE G H as env σ ∧ RepS G H as S ∧ ExOk G (fun c d h => W c d σ h) H as E ∧ t env S E Qi ∧
    ∀ J ds keep H' as' S', Ext H as H' as' → RepE G H' as' env σ → RepS G H' as' S' → ExOk G (fun c d h => W c d σ h) H' as' E → Qi ds keep S' → IterOk G J ds keep H' as' → R J H'
def Own (C : TC) (j : Nat) : Prop := ∃ x, tgB C x = true ∧ ixOf C.N x = some j
def LG (G : GC) (C : TC) (W : WX) (t : SG) : TG := fun v σ H Q => ∃ (env : Env) (S : Store) (as : List Addr) (d : D) (Qn : QN),
  RepE G H as env σ ∧ RepS G H as S ∧ Rep G H as d v ∧ t d env S noX Qn ∧
    ∀ σ' H' as' env' S', Ext H as H' as' → RepE G H' as' env' σ' → RepS G H' as' S' → σ'.length = σ.length → (∀ j, ¬ Own C j → σ'[j]? = σ[j]?) → Qn env' S' → Q σ' H'
structure Snd (p : Tr) : Prop where
  e : ∀ {G : GC} {C : TC} {X : Cx} {W : WX}, CtxOk G C X W → ∀ {e : Expr} {t : SE}, p.e C e = some t → PE X e (LE G W t)
  t : ∀ {G : GC} {C : TC} {X : Cx} {W : WX}, CtxOk G C X W → ∀ {e : Expr} {t : ST}, p.t C e = some t → PT X e (LT G W t)
  i : ∀ {G : GC} {C : TC} {X : Cx} {W : WX}, CtxOk G C X W → ∀ {tg e : Expr} {t : SI}, p.i C tg e = some t → PI X tg e (LI G W t)
  g : ∀ {G : GC} {C : TC} {X : Cx} {W : WX}, CtxOk G C X W → ∀ {e : Expr} {t : SG}, p.g C e = some t → PG X e (LG G C W t)
section
variable {G : GC} {C : TC} {X : Cx} {W : WX} {H : Hp} {as : List Addr} {S : Store}
theorem PI.imp {tg e : Expr} {t t' : TI} (h : PI X tg e t) (i : ∀ σ H Q, t' σ H Q → t σ H Q) : PI X tg e t' := ⟨fun pins s σ H Q I q => h.run pins s σ H Q I (i σ H Q q)⟩
theorem PG.imp {e : Expr} {t t' : TG} (h : PG X e t) (i : ∀ v σ H Q, t' v σ H Q → t v σ H Q) : PG X e t' := ⟨fun pins s σ H v u Q I r q => h.run pins s σ H v u Q I r (i v σ H Q q)⟩
/-! names -/
theorem ixFrom_get {x : Str} : ∀ (l : List Str) (i j : Nat), ixFrom x l i = some j → ∃ k, j = i + k ∧ l[k]? = some x
  | [], _, _, h => by cases h
  | y :: r, i, j, h => by
    unfold ixFrom at h
    split at h
    · rename_i e
      cases h
      exact ⟨0, rfl, by rw [of_decide_eq_true e]; rfl⟩
    · obtain ⟨k, e1, e2⟩ := ixFrom_get r (i + 1) j h
      exact ⟨k + 1, by omega, by simpa using e2⟩
theorem ixOf_get {x : Str} {N : List Str} {i : Nat} (h : ixOf N x = some i) : N[i]? = some x := by
  obtain ⟨k, e1, e2⟩ := ixFrom_get N 0 i h
  have : k = i := by omega
  subst this
  exact e2
theorem plain_of {x : Str} (h : plainB x = true) : (x == ("__debug__" : Str)) = false ∧ (x == ("__classdict__" : Str)) = false ∧ x ≠ "__name__" := by
  unfold plainB at h
  simp only [Bool.and_eq_true, Bool.not_eq_true', decide_eq_true_eq] at h
  exact ⟨h.1.1, h.1.2, h.2⟩
theorem vis_of {sc : Scope} {x : Str} (h : visK (sc.names.lookup x) = true) : Vis sc x := by
  unfold visK at h
  split at h
  · rename_i e; exact .inl e
  · rename_i e; exact .inr (.inl e)
  · rename_i e; exact .inr (.inr e)
  · cases h
theorem gl_of (c : CtxOk G C X W) {x : Str} (h : glK (C.sc.names.lookup x) = true) : Gl X x := by
  unfold glK at h
  split at h
  · rename_i e
    show X.env.scope.names.lookup x = some .globalImplicit
    rw [c.sc]
    exact e
  · cases h
theorem star_cons {e : Expr} {es : List Expr} (h : plainE e = true) (env : PySem.Env) : starEach (e :: es) env = (false, eval e env) :: starEach es env := by
  cases e <;> first | rfl | cases h
theorem star_none (pos : Pos) (env : PySem.Env) : ∀ (es : List Expr), plainEs es = true → (backTo pos (starEach es env)).any (·.1) = false
  | [], _ => rfl
  | e :: es, h => by
    unfold plainEs at h
    rw [Bool.and_eq_true] at h
    rw [star_cons h.1]
    show (false || (backTo pos (starEach es env)).any (·.1)) = false
    rw [star_none pos env es h.2]
    rfl
/-! constants, names -/
theorem s_const {c : Const} {k : Nat} {pos : Pos} {t : SE} (h : trConst c = some t) : PE X (.Constant c k pos) (LE G W t) := by
  cases c <;> cases h
  · exact PE.imp pe_non fun σ H Q ⟨env, S, as, E, Qd, he, hs, hx, ht, k⟩ => k.non hs ht
  · exact PE.imp pe_bl fun σ H Q ⟨env, S, as, E, Qd, he, hs, hx, ht, k⟩ => k.bl hs ht
  · exact PE.imp pe_int fun σ H Q ⟨env, S, as, E, Qd, he, hs, hx, ht, k⟩ => k.int hs ht
  · exact PE.imp pe_str fun σ H Q ⟨env, S, as, E, Qd, he, hs, hx, ht, k⟩ => k.str hs ht
theorem s_var (c : CtxOk G C X W) {x : Str} {i : Nat} {pos : Pos} (hp : plainB x = true) (hv : visK (C.sc.names.lookup x) = true) (hi : ixOf C.N x = some i) : PE X (.Name x pos) (LE G W (eVar i)) := by
  have p := plain_of hp
  refine PE.imp (pe_var (i := i) (by rw [c.N]; exact ixOf_get hi) (by rw [c.sc]; exact vis_of hv) p.1 p.2.1) fun σ H Q ⟨env, S, as, E, Qd, he, hs, hx, ht, k⟩ => ?_
  obtain ⟨d, e1, q⟩ := look_get ht
  obtain ⟨v, e2, r⟩ := he.get i d e1
  exact ⟨v, e2, k.same hs r q⟩
theorem s_glob (c : CtxOk G C X W) {x : Str} {pos : Pos} (hp : plainB x = true) (hg : glK (C.sc.names.lookup x) = true) : PE X (.Name x pos) (LE G W (eGlob C.T x)) := by
  have p := plain_of hp
  cases e : C.T.glob x with
  | none =>
    refine ⟨fun pins s σ H Q I h => ?_⟩
    obtain ⟨env, S, as, E, Qd, he, hs, hx, ht, k⟩ := h
    unfold eGlob at ht
    rw [e] at ht
    exact ht.elim
  | some d =>
    obtain ⟨u, v, hm, r, hr⟩ := c.glob x d e
    refine PE.imp (pe_glob (gl_of c hg) hm r p.1) fun σ H Q ⟨env, S, as, E, Qd, he, hs, hx, ht, k⟩ => ?_
    unfold eGlob at ht
    rw [e] at ht
    exact k.same hs (hr _ _) ht
theorem s_name (c : CtxOk G C X W) {x : Str} {pos : Pos} {t : SE} (h : trName C x = some t) : PE X (.Name x pos) (LE G W t) := by
  unfold trName at h
  split at h
  · rename_i hp
    split at h
    · rename_i hv
      obtain ⟨i, hi, rfl⟩ := Option.map_eq_some_iff.mp h
      exact s_var c hp hv hi
    · split at h
      · rename_i hg
        split at h
        · cases h
        · cases h
          exact s_glob c hp hg
      · cases h
  · cases h
/-! argument lists -/
theorem s_list {f : Expr → Option SE} (hf : ∀ {e : Expr} {t : SE}, f e = some t → PE X e (LE G W t)) : ∀ {es : List Expr} {ts : List SE}, plainEs es = true → trL f es = some ts → PA X es (LA G W es.length (eList ts))
  | [], ts, _, h => by
    cases h
    refine PA.imp pa_nil fun σ H Q ⟨env, S, as, E, Qd, he, hs, hx, ht, k⟩ => k [] H as [] S (.refl _ _) hs rfl rfl ht
  | e :: es, ts, hp, h => by
    unfold plainEs at hp
    rw [Bool.and_eq_true] at hp
    unfold trL at h
    obtain ⟨t, h1, h2⟩ := Option.bind_eq_some_iff.mp h
    obtain ⟨ts', h3, rfl⟩ := Option.map_eq_some_iff.mp h2
    refine PA.imp (pa_cons (hf h1) (s_list hf hp.2 h3) (star_cons hp.1 _)) fun σ H Q ⟨env, S, as, E, Qd, he, hs, hx, ht, k⟩ => ?_
    refine le_mk he hs hx ht fun v H1 as1 d S1 e1 he1 hs1 hx1 r1 q1 => ?_
    refine la_mk he1 hs1 hx1 q1 fun vs H2 as2 ds S2 e2 he2 hs2 hx2 r2 l2 q2 => ?_
    exact k (v :: vs) H2 as2 (d :: ds) S2 (e1.trans e2) hs2 ⟨v, vs, rfl, Rep.mono hs1 e2 d v r1, r2⟩ (by rw [List.length_cons, l2]; rfl) q2
theorem trL_length {f : Expr → Option α} : ∀ {es : List Expr} {ts : List α}, trL f es = some ts → ts.length = es.length
  | [], _, h => by cases h; rfl
  | e :: es, ts, h => by
    unfold trL at h
    obtain ⟨t, _, h2⟩ := Option.bind_eq_some_iff.mp h
    obtain ⟨ts', h3, rfl⟩ := Option.map_eq_some_iff.mp h2
    rw [List.length_cons, List.length_cons, trL_length h3]
theorem s_args {p : Tr} (hp : Snd p) (c : CtxOk G C X W) {es : List Expr} {ts : List SE} (h : trArgs (p.e C) es = some ts) : plainEs es = true ∧ PA X es (LA G W es.length (eList ts)) := by
  unfold trArgs at h
  split at h
  · rename_i hs
    exact ⟨hs, s_list (fun q => hp.e c q) hs h⟩
  · cases h
/-! displays, operators, tests -/
theorem line1000 {n : Nat} (h : n ≤ 1000) : n ≤ sizeLine := Nat.le_of_lt (small1000 h)
theorem s_tup {es : List Expr} {ts : List SE} {k : Nat} {pos : Pos} (hl : es.length ≤ 1000) (h : PA X es (LA G W es.length (eList ts))) : PE X (.Tuple es k pos) (LE G W (eTup ts)) := by
  refine PE.imp (pe_tup h) fun σ H Q ⟨env, S, as, E, Qd, he, hs, hx, ht, k⟩ => ?_
  refine la_mk he hs hx ht fun vs H1 as1 ds S1 e1 he1 hs1 hx1 r1 l1 q1 => ?_
  refine ⟨by rw [r1.length, l1]; exact line1000 hl, fun p hp => ?_⟩
  exact k _ _ _ (.tup ds) _ (e1.trans (Ext.tuple hs1 hp)) (hs1.other hp) ⟨p, vs, rfl, .inl (.inl upd_same), Reps.mono hs1 (Ext.tuple hs1 hp) _ _ r1⟩ q1
theorem s_lst {es : List Expr} {ts : List SE} {pos : Pos} (hl : es.length ≤ 1000) (h : PA X es (LA G W es.length (eList ts))) : PE X (.List es pos) (LE G W (eLst ts)) := by
  refine PE.imp (pe_lst h) fun σ H Q ⟨env, S, as, E, Qd, he, hs, hx, ht, k⟩ => ?_
  refine la_mk he hs hx ht fun vs H1 as1 ds S1 e1 he1 hs1 hx1 r1 l1 q1 => ?_
  refine ⟨by rw [r1.length, l1]; exact line1000 hl, fun p hp => ?_⟩
  exact k _ _ _ (.lref S1.length) _ (e1.trans (Ext.list hp)) (hs1.push hp r1) (rep_last hs1) q1
/-- behind two values -/
theorem le_two {ta tb : SE} {f : D → D → Store → QV → Prop} {r : R2} {σ : St} {H : Hp} {Q : VK} (hr : ∀ x y H Q, LOp G f x y H Q → r x y H Q) (h : LE G W (fun env S E Q => ta env S E fun x S1 => tb env S1 E fun y S2 => f x y S2 Q) σ H Q) : tOp r (LE G W ta) (LE G W tb) σ H Q := by
  obtain ⟨env, S, as, E, Qd, he, hs, hx, ht, k⟩ := h
  refine le_mk he hs hx ht fun v H1 as1 d S1 e1 he1 hs1 hx1 r1 q1 => ?_
  refine le_mk he1 hs1 hx1 q1 fun v2 H2 as2 d2 S2 e2 he2 hs2 hx2 r2 q2 => ?_
  exact hr _ _ _ _ ⟨S2, as2, d, d2, Qd, hs2, Rep.mono hs1 e2 d v r1, r2, q2, fun v3 H3 as3 d3 S3 e3 hs3 r3 q3 => k v3 H3 as3 d3 S3 ((e1.trans e2).trans e3) hs3 r3 q3⟩
theorem s_bin {a b : Expr} {ta tb : SE} {op : Operator} {f : D → D → Store → QV → Prop} {pos : Pos} (c : CtxOk G C X W) (ho : trOp op = some f) (ha : PE X a (LE G W ta)) (hb : PE X b (LE G W tb)) : PE X (.BinOp a op b pos) (LE G W (eBin f ta tb)) :=
  PE.imp (pe_op (lop_of c.K ho) ha hb) fun σ H Q h => le_two (fun _ _ _ _ q => q) h
theorem beh {b : Expr} (h : isSet b = false) (op : CmpOp) : behindInMarks op b = false := by
  cases b <;> first | rfl | cases h
theorem s_cmp {a b : Expr} {ta tb : SE} {op : CmpOp} {o : COp} {pos : Pos} (c : CtxOk G C X W) (hb' : isSet b = false) (ho : trCOp op = some o) (ha : PE X a (LE G W ta)) (hb : PE X b (LE G W tb)) : PE X (.Compare a [op] [b] pos) (LE G W (eCmp o ta tb)) :=
  PE.imp (pe_cmpR (cmp_run c.K c.units ho) ha hb (beh hb' op)) fun σ H Q h => le_two (fun _ _ _ _ q => q) h
theorem eqK0_mono {K K' : Bool → Prop} (hk : ∀ b, K b → K' b) {x y : D} {S : Store} (h : eqK0 x y S K) : eqK0 x y S K' := by
  have m : ∀ {k : Nat} {P P' : List D → Prop}, (∀ xs, P xs → P' xs) → cellL S k P → cellL S k P' := fun {k P P'} hp h => by
    unfold cellL at h ⊢
    split at h
    · exact hp _ h
    · exact h.elim
  unfold eqK0 at h ⊢
  split at h
  · exact m (fun xs => m fun ys ⟨q1, q2⟩ => ⟨q1, hk _ q2⟩) h
  · exact m (fun xs ⟨q1, q2⟩ => ⟨q1, hk _ q2⟩) h
  · exact m (fun xs ⟨q1, q2⟩ => ⟨q1, hk _ q2⟩) h
  · exact ⟨h.1, hk _ h.2⟩
theorem eqK_mono {K K' : Bool → Prop} (hk : ∀ b, K b → K' b) {x y : D} {S : Store} (h : eqK x y S K) : eqK x y S K' := by
  unfold eqK at h ⊢
  split at h
  · exact hk _ h
  · exact eqK0_mono hk h
theorem cmpK_mono {o : COp} {K K' : Bool → Prop} (hk : ∀ b, K b → K' b) {x y : D} {S : Store} (h : cmpK o x y S K) : cmpK o x y S K' := by
  have m : ∀ {k : Nat} {P P' : List D → Prop}, (∀ xs, P xs → P' xs) → cellL S k P → cellL S k P' := fun {k P P'} hp h => by
    unfold cellL at h ⊢
    split at h
    · exact hp _ h
    · exact h.elim
  have iv : ∀ {K K' : Bool → Prop} {x y : D}, (∀ b, K b → K' b) → inK x y S K → inK x y S K' := fun {K K' x y} hk h => by
    unfold inK at h ⊢
    split at h
    · exact ⟨h.1, hk _ h.2⟩
    · exact m (fun xs ⟨q1, q2⟩ => ⟨q1, hk _ q2⟩) h
    · exact hk _ h
    · exact h.elim
  have sv : ∀ {K K' : Bool → Prop} {x y : D}, (∀ b, K b → K' b) → isK x y S K → isK x y S K' := fun {K K' x y} hk h => by
    unfold isK at h ⊢
    split at h <;> first | exact hk _ h | exact h.elim
  have lv : ∀ {x y : D}, ltK x y S K → ltK x y S K' := fun {x y} h => by
    unfold ltK at h ⊢
    split at h <;> first | exact hk _ h | exact h.elim
  have ev : ∀ {x y : D}, leK x y S K → leK x y S K' := fun {x y} h => by
    unfold leK at h ⊢
    split at h <;> first | exact hk _ h | exact h.elim
  cases o
  · exact eqK_mono hk h
  · exact eqK_mono (fun b => hk (!b)) h
  · exact lv h
  · exact ev h
  · exact lv h
  · exact ev h
  · exact sv hk h
  · exact sv (fun b => hk (!b)) h
  · exact iv hk h
  · exact iv (fun b => hk (!b)) h
theorem t_cmp {a b : Expr} {ta tb : SE} {op : CmpOp} {o : COp} {pos : Pos} (c : CtxOk G C X W) (hb' : isSet b = false) (ho : trCOp op = some o) (ha : PE X a (LE G W ta)) (hb : PE X b (LE G W tb)) : PT X (.Compare a [op] [b] pos) (LT G W (tE (eCmp o ta tb))) := by
  refine PT.imp (pt_cmpR (cmp_run c.K c.units ho) ha hb (beh hb' op)) fun σ H Q ⟨env, S, as, E, Qd, he, hs, hx, ht, k⟩ => ?_
  refine le_mk he hs hx ht fun v H1 as1 d S1 e1 he1 hs1 hx1 r1 q1 => ?_
  refine le_mk he1 hs1 hx1 q1 fun v2 H2 as2 d2 S2 e2 he2 hs2 hx2 r2 q2 => ?_
  refine ⟨S2, as2, d, d2, fun x S' => ∃ b, x = .bl b ∧ Qd b S', hs2, Rep.mono hs1 e2 d v r1, r2, cmpK_mono (fun b q => ⟨b, rfl, q⟩) q2, fun v3 H3 as3 d3 S3 e3 hs3 r3 q3 => ?_⟩
  obtain ⟨b, rfl, q3⟩ := q3
  exact ⟨b, r3, k b H3 as3 S3 ((e1.trans e2).trans e3) hs3 q3⟩
/-- a chain of two comparisons -/
theorem chain_aux {a b c' : Expr} {ta tb tc : SE} {op op' : CmpOp} {o o' : COp} {σ : St} {H : Hp} {Q : VK} (c : CtxOk G C X W) (ho : trCOp op = some o) (ho' : trCOp op' = some o')
    {env : Env} {S : Store} {as : List Addr} {E : QX} {Qd : QV} (he : RepE G H as env σ) (hs : RepS G H as S) (hx : ExOk G (fun c d h => W c d σ h) H as E) (ht : eChain o o' ta tb tc env S E Qd)
    (k : ∀ b H' as' S', Ext H as H' as' → RepS G H' as' S' → Qd (.bl b) S' → Q (.bl b) H') : tChain (LOp G (cOf o)) (LOp G (cOf o')) (LE G W ta) (LE G W tb) (LE G W tc) σ H Q := by
  refine le_mk he hs hx ht fun v H1 as1 d S1 e1 he1 hs1 hx1 r1 q1 => ?_
  refine le_mk he1 hs1 hx1 q1 fun v2 H2 as2 d2 S2 e2 he2 hs2 hx2 r2 q2 => ?_
  refine ⟨S2, as2, d, d2, fun x S' => S' = S2 ∧ ∃ b, x = .bl b ∧ (if b = true then tc env S2 E fun z S3 => cmpK o' d2 z S3 fun k' => Qd (.bl k') S3 else Qd (.bl false) S2), hs2, Rep.mono hs1 e2 d v r1, r2, cmpK_mono (fun b q => ⟨rfl, b, rfl, q⟩) q2, fun v3 H3 as3 d3 S3 e3 hs3 r3 q3 => ?_⟩
  obtain ⟨rfl, b, rfl, q3⟩ := q3
  refine ⟨b, r3, ?_⟩
  cases b with
  | false =>
    rw [if_neg Bool.false_ne_true] at q3 ⊢
    exact k false H3 as3 _ ((e1.trans e2).trans e3) hs3 q3
  | true =>
    rw [if_pos rfl] at q3 ⊢
    refine le_mk (he2.mono hs2 e3) hs3 (hx2.mono e3) q3 fun v4 H4 as4 d4 S4 e4 he4 hs4 hx4 r4 q4 => ?_
    refine ⟨S4, as4, d2, d4, fun x S' => ∃ b, x = .bl b ∧ Qd x S', hs4, Rep.mono hs3 e4 _ _ (Rep.mono hs2 e3 _ _ r2), r4, cmpK_mono (fun b q => ⟨b, rfl, q⟩) q4, fun v5 H5 as5 d5 S5 e5 hs5 r5 q5 => ?_⟩
    obtain ⟨b, rfl, q5⟩ := q5
    cases r5
    exact k b H5 as5 S5 ((((e1.trans e2).trans e3).trans e4).trans e5) hs5 q5
theorem s_chain {a b d : Expr} {ta tb td : SE} {op op' : CmpOp} {o o' : COp} {pos : Pos} (c : CtxOk G C X W) (ho : trCOp op = some o) (ho' : trCOp op' = some o') (ha : PE X a (LE G W ta)) (hb : PE X b (LE G W tb)) (hd : PE X d (LE G W td)) (hd' : isSet d = false) :
    PE X (.Compare a [op, op'] [b, d] pos) (LE G W (eChain o o' ta tb td)) := by
  refine PE.imp (pe_chain (cmp_run c.K c.units ho) (cmp_run c.K c.units ho') ha hb hd (by exact beh hd' op')) fun σ H Q ⟨env, S, as, E, Qd, he, hs, hx, ht, k⟩ => ?_
  exact chain_aux (a := a) (b := b) (c' := d) c ho ho' he hs hx ht fun b H' as' S' e r q => k _ _ _ (.bl b) _ e r rfl q
theorem t_chain {a b d : Expr} {ta tb td : SE} {op op' : CmpOp} {o o' : COp} {pos : Pos} (c : CtxOk G C X W) (ho : trCOp op = some o) (ho' : trCOp op' = some o') (ha : PE X a (LE G W ta)) (hb : PE X b (LE G W tb)) (hd : PE X d (LE G W td)) (hd' : isSet d = false) :
    PT X (.Compare a [op, op'] [b, d] pos) (LT G W (tE (eChain o o' ta tb td))) := by
  refine PT.imp (pt_chain (cmp_run c.K c.units ho) (cmp_run c.K c.units ho') ha hb hd (by exact beh hd' op')) fun σ H Q ⟨env, S, as, E, Qd, he, hs, hx, ht, k⟩ => ?_
  exact chain_aux (a := a) (b := b) (c' := d) (Qd := fun x S' => truthD x S' fun b => Qd b S') c ho ho' he hs hx ht fun b H' as' S' e r q => ⟨b, rfl, k b H' as' S' e r q⟩
end
end SD

-- SD9
set_option Elab.async false
set_option linter.all false
set_option maxRecDepth 100000
set_option maxHeartbeats 2000000
namespace SD
open PySem L2
section
variable {G : GC} {C : TC} {X : Cx} {W : WX} {H : Hp} {as : List Addr} {S : Store}
theorem s_neg {a : Expr} {ta : SE} {pos : Pos} (ha : PE X a (LE G W ta)) : PE X (.UnaryOp .USub a pos) (LE G W (eUn negD ta)) := by
  refine PE.imp (pe_un (lun_neg (G := G)) ha) fun σ H Q ⟨env, S, as, E, Qd, he, hs, hx, ht, k⟩ => ?_
  refine le_mk he hs hx ht fun v H1 as1 d S1 e1 he1 hs1 hx1 r1 q1 => ?_
  exact ⟨S1, as1, d, Qd, hs1, r1, q1, fun v3 H3 as3 d3 S3 e3 hs3 r3 q3 => k v3 H3 as3 d3 S3 (e1.trans e3) hs3 r3 q3⟩
theorem s_not {a : Expr} {ta : SE} {pos : Pos} (c : CtxOk G C X W) (ha : PE X a (LE G W ta)) : PE X (.UnaryOp .Not a pos) (LE G W (eNot ta)) := by
  refine PE.imp (pe_notT ha) fun σ H Q ⟨env, S, as, E, Qd, he, hs, hx, ht, k⟩ => ?_
  refine le_mk he hs hx ht fun v H1 as1 d S1 e1 he1 hs1 hx1 r1 q1 => ?_
  obtain ⟨b, q2, q3⟩ := truth_tru hs1 r1 q1
  exact ⟨b, c.K ▸ q2, k _ _ _ (.bl _) _ e1 hs1 rfl q3⟩
theorem s_and {f : Expr → Option SE} (c : CtxOk G C X W) (hf : ∀ {e : Expr} {t : SE}, f e = some t → PE X e (LE G W t)) {pos : Pos} : ∀ {es : List Expr} {t : SE}, trAnd f es = some t → PE X (.BoolOp .And es pos) (LE G W t)
  | [], _, h => by cases h
  | [e], t, h => pe_one (hf h)
  | e :: e2 :: es, t, h => by
    unfold trAnd at h
    obtain ⟨ta, h1, h2⟩ := Option.bind_eq_some_iff.mp h
    obtain ⟨tb, h3, rfl⟩ := Option.map_eq_some_iff.mp h2
    refine PE.imp (pe_andT (hf h1) (s_and c hf h3)) fun σ H Q ⟨env, S, as, E, Qd, he, hs, hx, ht, k⟩ => ?_
    refine le_mk he hs hx ht fun v H1 as1 d S1 e1 he1 hs1 hx1 r1 q1 => ?_
    obtain ⟨b, q2, q3⟩ := truth_tru hs1 r1 q1
    refine ⟨b, c.K ▸ q2, ?_⟩
    cases b with
    | false => exact k _ _ _ d _ e1 hs1 r1 q3
    | true => exact le_mk he1 hs1 hx1 q3 fun v2 H2 as2 d2 S2 e2 he2 hs2 hx2 r2 q2 => k _ _ _ d2 _ (e1.trans e2) hs2 r2 q2
theorem s_or {f : Expr → Option SE} (c : CtxOk G C X W) (hf : ∀ {e : Expr} {t : SE}, f e = some t → PE X e (LE G W t)) {pos : Pos} : ∀ {es : List Expr} {t : SE}, trOr f es = some t → PE X (.BoolOp .Or es pos) (LE G W t)
  | [], _, h => by cases h
  | [e], t, h => pe_one (hf h)
  | e :: e2 :: es, t, h => by
    unfold trOr at h
    obtain ⟨ta, h1, h2⟩ := Option.bind_eq_some_iff.mp h
    obtain ⟨tb, h3, rfl⟩ := Option.map_eq_some_iff.mp h2
    refine PE.imp (pe_orT (hf h1) (s_or c hf h3)) fun σ H Q ⟨env, S, as, E, Qd, he, hs, hx, ht, k⟩ => ?_
    refine le_mk he hs hx ht fun v H1 as1 d S1 e1 he1 hs1 hx1 r1 q1 => ?_
    obtain ⟨b, q2, q3⟩ := truth_tru hs1 r1 q1
    refine ⟨b, c.K ▸ q2, ?_⟩
    cases b with
    | true => exact k _ _ _ d _ e1 hs1 r1 q3
    | false => exact le_mk he1 hs1 hx1 q3 fun v2 H2 as2 d2 S2 e2 he2 hs2 hx2 r2 q2 => k _ _ _ d2 _ (e1.trans e2) hs2 r2 q2
theorem s_if {e a b : Expr} {t : ST} {ta tb : SE} {pos : Pos} (he : PT X e (LT G W t)) (ha : PE X a (LE G W ta)) (hb : PE X b (LE G W tb)) : PE X (.IfExp e a b pos) (LE G W (eIf t ta tb)) := by
  refine PE.imp (pe_ifExp he ha hb) fun σ H Q ⟨env, S, as, E, Qd, he, hs, hx, ht, k⟩ => ?_
  refine lt_mk he hs hx ht fun b H1 as1 S1 e1 he1 hs1 hx1 q1 => ?_
  cases b with
  | true => exact le_mk he1 hs1 hx1 q1 fun v2 H2 as2 d2 S2 e2 he2 hs2 hx2 r2 q2 => k _ _ _ d2 _ (e1.trans e2) hs2 r2 q2
  | false => exact le_mk he1 hs1 hx1 q1 fun v2 H2 as2 d2 S2 e2 he2 hs2 hx2 r2 q2 => k _ _ _ d2 _ (e1.trans e2) hs2 r2 q2
theorem plain_ix {b : Expr} (h : isSl b = false) : PlainIx b := by
  cases b <;> first | (intro o i; rfl) | cases h
theorem s_ix {a b : Expr} {ta tb : SE} {pos : Pos} (c : CtxOk G C X W) (hb' : isSl b = false) (ha : PE X a (LE G W ta)) (hb : PE X b (LE G W tb)) : PE X (.Subscript a b pos) (LE G W (eIx ta tb)) :=
  PE.imp (pe_ix (ix_run c.K) ha hb (plain_ix hb')) fun σ H Q h => le_two (fun _ _ _ _ q => q) h
/-- a part of a slice -/
def LP (G : GC) (W : WX) (t : Option SE) : St → Hp → (Option Int → Hp → Prop) → Prop := fun σ H Q => ∃ (env : Env) (S : Store) (as : List Addr) (E : QX) (Qd : Option Int → Store → Prop),
  RepE G H as env σ ∧ RepS G H as S ∧ ExOk G (fun c d h => W c d σ h) H as E ∧ ePart t env S E Qd ∧ ∀ i H' as' S', Ext H as H' as' → RepE G H' as' env σ → RepS G H' as' S' → ExOk G (fun c d h => W c d σ h) H' as' E → Qd i S' → Q i H'
theorem PO.imp {e : Option Expr} {t t' : St → Hp → (Option Int → Hp → Prop) → Prop} (h : PO X e t) (i : ∀ σ H Q, t' σ H Q → t σ H Q) : PO X e t' := ⟨fun pins s σ H Q I q => h.run pins s σ H Q I (i σ H Q q)⟩
theorem s_part0 : PO X none (LP G W none) := PO.imp po_none fun σ H Q ⟨env, S, as, E, Qd, he, hs, hx, ht, k⟩ => k none H as S (.refl _ _) he hs hx ht
theorem s_part1 {e : Expr} {t : SE} (h : PE X e (LE G W t)) : PO X (some e) (LP G W (some t)) := by
  refine PO.imp (po_some h) fun σ H Q ⟨env, S, as, E, Qd, he, hs, hx, ht, k⟩ => ?_
  refine le_mk he hs hx ht fun v H1 as1 d S1 e1 he1 hs1 hx1 r1 q1 => ?_
  split at q1
  · cases r1
    exact ⟨_, rfl, k _ H1 as1 S1 e1 he1 hs1 hx1 q1⟩
  · exact q1.elim
theorem s_slice {a : Expr} {ta : SE} {lo hi : Option Expr} {tl th : Option SE} {p2 pos : Pos} (c : CtxOk G C X W) (ha : PE X a (LE G W ta)) (hl : PO X lo (LP G W tl)) (hh : PO X hi (LP G W th)) :
    PE X (.Subscript a (.Slice lo hi none p2) pos) (LE G W (eSlice ta tl th)) := by
  refine PE.imp (pe_slice (slice_run c.K) ha hl hh) fun σ H Q ⟨env, S, as, E, Qd, he, hs, hx, ht, k⟩ => ?_
  refine le_mk he hs hx ht fun v H1 as1 d S1 e1 he1 hs1 hx1 r1 q1 => ?_
  refine ⟨env, S1, as1, E, _, he1, hs1, hx1, q1, fun i H2 as2 S2 e2 he2 hs2 hx2 q2 => ?_⟩
  refine ⟨env, S2, as2, E, _, he2, hs2, hx2, q2, fun j H3 as3 S3 e3 he3 hs3 hx3 q3 => ?_⟩
  exact ⟨S3, as3, d, Qd, hs3, Rep.mono hs2 e3 _ _ (Rep.mono hs1 e2 _ _ r1), q3, fun v4 H4 as4 d4 S4 e4 hs4 r4 q4 => k v4 H4 as4 d4 S4 (((e1.trans e2).trans e3).trans e4) hs4 r4 q4⟩
/-! calls -/
theorem run_callee {d : FnD} {pins : List (Addr × Obj)} {σ : St} {s : Shared} {H0 : Hp} {Q : VK} {us : List Value} {vs : List V} (c : CtxOk G C X W) {k : Nat} {a : Addr} {fd : FuncData} {ps : List Str}
    (hb : Binds X.K fd ps []) (F : FnG X.prog X.w X.K X.mg X.base k a fd ps (LSp G d.n d.sp)) (hr : Room k X.A) (hn : ps.length = d.n) (I : L2.Inv X pins σ H0 s) (r : Vals vs us) (h : LSp G d.n d.sp vs H0 Q (WE W σ)) :
    wpAny (model X.prog X.w) X.A (call (.ref a) us) (EP X pins σ Q) X.xe s := by
  have hl : us.length = ps.length := by rw [← r.length, hn]; exact h.1
  have b := hb s us I.kIn (by rw [List.append_nil]; exact hl)
  rw [List.append_nil] at b
  refine wpAny_call (codeAny_mono (F.run X.A X.stack s H0 ⟨us, []⟩ us vs Q (WE W σ) hr c.guards I.env0 b r h) fun res s' hq => ?_)
  cases res with
  | error e => exact passAt c.tk σ pins H0 s e s' I hq
  | ok fl =>
    cases fl with
    | ret u => exact I.after hq
    | next => exact hq.elim
    | brk => exact hq.elim
    | cont => exact hq.elim
/-- the arguments, then the def -/
theorem run_args {d : FnD} {pins : List (Addr × Obj)} {σ : St} {s : Shared} {H0 : Hp} {Q : VK} {es : List Expr} {ts : List SE} (c : CtxOk G C X W) {k : Nat} {a : Addr} {fd : FuncData} {ps : List Str} {pos : Pos}
    (hk : PySem.W.keepIn X.K (.ref a) = true) (hb : Binds X.K fd ps []) (F : FnG X.prog X.w X.K X.mg X.base k a fd ps (LSp G d.n d.sp)) (hr : Room k X.A) (hn : ps.length = d.n) (I : L2.Inv X pins σ H0 s)
    (hpe : plainEs es = true) (hlen : ts.length = es.length) (ha : PA X es (LA G W es.length (eList ts)))
    (h : ∃ (env : Env) (S : Store) (as : List Addr) (E : QX) (Qd : QV), RepE G H0 as env σ ∧ RepS G H0 as S ∧ ExOk G (fun c d h => W c d σ h) H0 as E ∧ (es.length = d.n ∧ eList ts env S E fun ds S1 => d.sp ds S1 E Qd) ∧ Post G H0 as Qd Q) :
    wpAny (model X.prog X.w) X.A (callWith pos (.ref a) [] (backTo pos (starEach es X.env)) []) (EP X pins σ Q) X.xe s := by
  obtain ⟨env, S, as, E, Qd, he, hs, hx, ⟨hl, ht⟩, k⟩ := h
  cases es with
  | nil =>
    have e := List.eq_nil_of_length_eq_zero hlen
    subst e
    exact PySem.W.callWith_K0 I.kIn hk (run_callee (us := []) (vs := []) c hb F hr hn I .nil ⟨hl, S, as, [], E, Qd, hs, rfl, hx, ht, k⟩)
  | cons e es =>
    have q : LA G W (e :: es).length (eList ts) σ H0 fun vs H1 => LSp G d.n d.sp vs H1 Q (WE W σ) :=
      la_mk he hs hx ht fun vs H1 as1 ds S1 e1 he1 hs1 hx1 r1 l1 q1 => ⟨by rw [r1.length, l1, hl], S1, as1, ds, E, Qd, hs1, r1, hx1, q1, fun v H' as' d' S' e r rd q => k v H' as' d' S' (e1.trans e) r rd q⟩
    unfold plainEs at hpe
    rw [Bool.and_eq_true] at hpe
    refine PySem.W.callWith_K (h₀ := X.base) I.ok.mod.kin hk (thn (ha.run pos pins s σ H0 _ I q) fun us s1 ⟨vs, H1, I1, r, q⟩ => ⟨I1.kIn, ?_⟩) (star_cons hpe.1 _) (star_none _ _ _ hpe.2)
    exact run_callee c hb F hr hn I1 r q
theorem s_call {f : Str} {es : List Expr} {ts : List SE} {fp pos : Pos} (c : CtxOk G C X W) (hcalm : C.calm = true) (hp : plainB f = true) (hg : glK (C.sc.names.lookup f) = true) (hpe : plainEs es = true) (hlen : ts.length = es.length) (ha : PA X es (LA G W es.length (eList ts))) :
    PE X (.Call (.Name f fp) es [] pos) (LE G W (eCall C.T f ts)) := by
  refine ⟨fun pins s σ H Q I h => ?_⟩
  obtain ⟨env, S, as, E, Qd, he, hs, hx, ht, k⟩ := h
  have p := plain_of hp
  unfold eCall at ht
  split at ht
  · rename_i d e
    obtain ⟨lv, a, fd, ps, hm, _, hk, hb, F, hr, hn⟩ := (c.sp hcalm f d e).ex
    refine wpAny_Call_Name_kw (ld_glob I (gl_of c hg) hm ?_ p.1)
    exact run_args c hk hb F hr hn I hpe hlen ha ⟨env, S, as, E, Qd, he, hs, hx, ⟨hlen ▸ ht.1, ht.2⟩, k⟩
  · exact ht.elim
/-- a def that is a value -/
theorem s_callV {fe : Expr} {tf : SE} {es : List Expr} {ts : List SE} {pos : Pos} (c : CtxOk G C X W) (hcalm : C.calm = true) (hf : PE X fe (LE G W tf)) (hpe : plainEs es = true) (hlen : ts.length = es.length) (ha : PA X es (LA G W es.length (eList ts)))
    (hev : eval (.Call fe es [] pos) X.env = (do callWith pos (← eval fe X.env) [] (backTo pos (starEach es X.env)) (backToKw pos (keywordEach [] X.env)))) :
    PE X (.Call fe es [] pos) (LE G W (eCallV C.T tf ts)) := by
  refine ⟨fun pins s σ H Q I h => ?_⟩
  obtain ⟨env, S, as, E, Qd, he, hs, hx, ht, k⟩ := h
  rw [hev]
  have q : LE G W tf σ H fun v H1 => ∃ (d : FnD) (n : Str) (env : Env) (S1 : Store) (as1 : List Addr) (a : Addr), v = .ref a ∧ C.T.sp n = some d ∧ G.fa n = some a ∧ Ext H as H1 as1 ∧ RepE G H1 as1 env σ ∧ RepS G H1 as1 S1 ∧
      ExOk G (fun c d h => W c d σ h) H1 as1 E ∧ (ts.length = d.n ∧ eList ts env S1 E fun ds S1 => d.sp ds S1 E Qd) := by
    refine le_mk he hs hx ht fun v H1 as1 d S1 e1 he1 hs1 hx1 r1 q1 => ?_
    split at q1
    · obtain ⟨a, rfl, ha⟩ := r1
      split at q1
      · rename_i n _ d e
        exact ⟨d, n, env, S1, as1, a, rfl, e, ha, e1, he1, hs1, hx1, q1⟩
      · exact q1.elim
    · exact q1.elim
  refine wpAny_bind (thn (hf.run pins s σ H _ I q) fun u s1 ⟨v, H1, I1, r1, d, n, env, S1, as1, a, e0, e1, e2, e3, he1, hs1, hx1, q1⟩ => ?_)
  subst e0
  cases r1
  obtain ⟨lv, a', fd, ps, hm, hfa, hk, hb, F, hr, hn⟩ := (c.sp hcalm n d e1).ex
  rw [e2] at hfa
  cases hfa
  exact run_args c hk hb F hr hn I1 hpe hlen ha ⟨env, S1, as1, E, Qd, he1, hs1, hx1, ⟨hlen ▸ q1.1, q1.2⟩, fun v H' as' d' S' e r rd q => k v H' as' d' S' (e3.trans e) r rd q⟩
/-! built-ins -/
theorem s_b1 {e : Expr} {t : SE} {f : Str} {fp pos : Pos} {g : D → Store → QV → Prop} (hpe : plainE e = true) (he : PE X e (LE G W t)) (hc : PE X (.Call (.Name f fp) [e] [] pos) (tCB (LB G g) (tCons (LE G W t) tNil))) : PE X (.Call (.Name f fp) [e] [] pos) (LE G W (eB1 g t)) := by
  refine PE.imp hc fun σ H Q ⟨env, S, as, E, Qd, he, hs, hx, ht, k⟩ => ?_
  refine le_mk he hs hx ht fun v H1 as1 d S1 e1 he1 hs1 hx1 r1 q1 => ?_
  exact ⟨S1, as1, d, v, Qd, rfl, hs1, r1, q1, fun v3 H3 as3 d3 S3 e3 hs3 r3 q3 => k v3 H3 as3 d3 S3 (e1.trans e3) hs3 r3 q3⟩
theorem s_bi1 {e : Expr} {t : SE} {f : Str} {fp pos : Pos} {g : D → Store → QV → Prop} (c : CtxOk G C X W) (hp : plainB f = true) (hg : glK (C.sc.names.lookup f) = true) (hb : isBi f = true) (hpe : plainE e = true) (he : PE X e (LE G W t)) (h : trB1 f = some g) :
    PE X (.Call (.Name f fp) [e] [] pos) (LE G W (eB1 g t)) := by
  have p := plain_of hp
  have gl := gl_of c hg
  have m := c.bi f hb
  have sc := star_cons (es := []) hpe X.env
  unfold trB1 at h
  split at h
  · rename_i q; cases h; have q := of_decide_eq_true q; subst q
    exact s_b1 hpe he (pe_callB (b_len c.K) gl m (by decide +kernel) (pa_cons he pa_nil sc) p.2.2 p.1 sc rfl)
  · split at h
    · rename_i q; cases h; have q := of_decide_eq_true q; subst q
      exact s_b1 hpe he (pe_callB b_abs gl m (by decide +kernel) (pa_cons he pa_nil sc) p.2.2 p.1 sc rfl)
    · split at h
      · rename_i q; cases h; have q := of_decide_eq_true q; subst q
        exact s_b1 hpe he (pe_callTy (b_tuple c.K) gl m (by decide +kernel) (pa_cons he pa_nil sc) p.2.2 p.1 sc rfl)
      · split at h
        · rename_i q; cases h; have q := of_decide_eq_true q; subst q
          exact s_b1 hpe he (pe_callTy (b_list c.K) gl m (by decide +kernel) (pa_cons he pa_nil sc) p.2.2 p.1 sc rfl)
        · split at h
          · rename_i q; cases h; have q := of_decide_eq_true q; subst q
            exact s_b1 hpe he (pe_callTy b_int gl m (by decide +kernel) (pa_cons he pa_nil sc) p.2.2 p.1 sc rfl)
          · split at h
            · rename_i q; cases h; have q := of_decide_eq_true q; subst q
              exact s_b1 hpe he (pe_callB (b_repr c.K c.units c.guards) gl m (by decide +kernel) (pa_cons he pa_nil sc) p.2.2 p.1 sc rfl)
            · cases h
theorem tyOf_mem {x : Str} {u : String} (h : tyOf x = some u) : u ∈ ["int", "bool", "str", "tuple", "list"] ∧ bootBuiltins x = some (.type u) ∧ isBi x = true := by
  unfold tyOf at h
  split at h
  · rename_i q; cases h; have q := of_decide_eq_true q; subst q; exact ⟨by simp, by decide +kernel, by decide +kernel⟩
  · split at h
    · rename_i q; cases h; have q := of_decide_eq_true q; subst q; exact ⟨by simp, by decide +kernel, by decide +kernel⟩
    · split at h
      · rename_i q; cases h; have q := of_decide_eq_true q; subst q; exact ⟨by simp, by decide +kernel, by decide +kernel⟩
      · split at h
        · rename_i q; cases h; have q := of_decide_eq_true q; subst q; exact ⟨by simp, by decide +kernel, by decide +kernel⟩
        · split at h
          · rename_i q; cases h; have q := of_decide_eq_true q; subst q; exact ⟨by simp, by decide +kernel, by decide +kernel⟩
          · cases h
theorem s_isa {e : Expr} {t : SE} {x : Str} {u : String} {fp xp pos : Pos} (c : CtxOk G C X W) (hg : glK (C.sc.names.lookup ("isinstance" : Str)) = true) (hpe : plainE e = true) (he : PE X e (LE G W t)) (hgx : glK (C.sc.names.lookup x) = true) (hpx : plainB x = true) (h : tyOf x = some u) :
    PE X (.Call (.Name "isinstance" fp) [e, .Name x xp] [] pos) (LE G W (eB1 (isaD [u]) t)) := by
  obtain ⟨h1, h2, h3⟩ := tyOf_mem h
  have p := plain_of hpx
  have tx : PE X (.Name x xp) (tC (.ty u)) := pe_bltn (gl_of c hgx) (c.bi x h3) h2 rfl p.2.2 p.1
  have sc := star_cons (es := [.Name x xp]) hpe X.env
  refine PE.imp (pe_callB (b_isa c.K h1) (gl_of c hg) (c.bi _ (by decide +kernel)) (by decide +kernel) (pa_cons he (pa_cons tx pa_nil) sc) (by decide) (by decide) sc rfl) fun σ H Q ⟨env, S, as, E, Qd, he, hs, hx, ht, k⟩ => ?_
  refine le_mk he hs hx ht fun v H1 as1 d S1 e1 he1 hs1 hx1 r1 q1 => ?_
  exact ⟨S1, as1, d, v, Qd, rfl, hs1, r1, q1, fun v3 H3 as3 d3 S3 e3 hs3 r3 q3 => k v3 H3 as3 d3 S3 (e1.trans e3) hs3 r3 q3⟩
theorem base_of {o : Expr} (h : isCall0 o = false) (m : Str) (env : PySem.Env) : attributeBase o m env (eval o env) = eval o env := by
  unfold attributeBase
  split
  · cases h
  · rfl
theorem s_append {o a : Expr} {to ta : SE} {apos cpos : Pos} (ho' : isCall0 o = false) (hpe : plainE a = true) (hl : (apos.endLine == cpos.line) = true) (ho : PE X o (LE G W to)) (ha : PE X a (LE G W ta)) :
    PE X (.Call (.Attribute o "append" apos) [a] [] cpos) (LE G W (eApp to ta)) := by
  have sc := star_cons (es := []) hpe X.env
  refine PE.imp (pe_bm PySem.F.plainAttrs_list PySem.F.slot_list_append PySem.F.type_list_append (m_append (G := G)) ho (pa_cons ha pa_nil sc) (base_of ho' _ _) (by rw [sc]; rfl) hl sc rfl) fun σ H Q ⟨env, S, as, E, Qd, he, hs, hx, ht, k⟩ => ?_
  refine le_mk he hs hx ht fun v H1 as1 d S1 e1 he1 hs1 hx1 r1 q1 => ?_
  split at q1
  · rename_i j
    refine ⟨?_, ?_⟩
    · obtain ⟨a, rfl, ha⟩ := r1
      obtain ⟨xs, q⟩ := hs1.lists (List.mem_of_getElem? ha)
      exact .inl ⟨rfl, xs, .inl (.inl q)⟩
    · refine le_mk he1 hs1 hx1 q1 fun v2 H2 as2 d2 S2 e2 he2 hs2 hx2 r2 q2 => ?_
      exact ⟨S2, as2, .lref j, d2, v2, Qd, rfl, hs2, Rep.mono hs1 e2 _ _ r1, r2, q2, fun v3 H3 as3 d3 S3 e3 hs3 r3 q3 => k v3 H3 as3 d3 S3 ((e1.trans e2).trans e3) hs3 r3 q3⟩
  · exact q1.elim
/-! tests -/
theorem t_val {e : Expr} {t : SE} (c : CtxOk G C X W) (he : PE X e (LE G W t)) (hw : ∀ whole, isTrue e X.env whole = (do let v ← whole; standAt e.pos; holding [v] (truthy v))) : PT X e (LT G W (tE t)) := by
  refine PT.imp (pt_truth he hw) fun σ H Q ⟨env, S, as, E, Qd, he, hs, hx, ht, k⟩ => ?_
  refine le_mk he hs hx ht fun v H1 as1 d S1 e1 he1 hs1 hx1 r1 q1 => ?_
  obtain ⟨b, q2, q3⟩ := truth_tru hs1 r1 q1
  exact ⟨b, c.K ▸ q2, k _ _ _ _ e1 hs1 q3⟩
theorem t_not {e : Expr} {t : ST} {pos : Pos} (he : PT X e (LT G W t)) : PT X (.UnaryOp .Not e pos) (LT G W (tNot t)) := by
  refine PT.imp (pt_not he) fun σ H Q ⟨env, S, as, E, Qd, he, hs, hx, ht, k⟩ => ?_
  exact lt_mk he hs hx ht fun b H1 as1 S1 e1 he1 hs1 hx1 q1 => k _ _ _ _ e1 hs1 q1
theorem PW.imp {X : Cx} {e : Expr} {t t' : TT} (h : PW X e t) (i : ∀ σ H Q, t' σ H Q → t σ H Q) : PW X e t' := ⟨fun w pins s σ H Q I q => h.run w pins s σ H Q I (i σ H Q q)⟩
theorem t_and {f : Expr → Option ST} (hf : ∀ {e : Expr} {t : ST}, f e = some t → PT X e (LT G W t)) {pos : Pos} : ∀ {es : List Expr} {t : ST}, ttAnd f es = some t → PW X (.BoolOp .And es pos) (LT G W t)
  | [], _, h => by cases h
  | [e], t, h => pw_and1 (hf h)
  | e :: e2 :: es, t, h => by
    unfold ttAnd at h
    obtain ⟨ta, h1, h2⟩ := Option.bind_eq_some_iff.mp h
    obtain ⟨tb, h3, rfl⟩ := Option.map_eq_some_iff.mp h2
    refine PW.imp (pw_and (hf h1) (t_and hf h3)) fun σ H Q ⟨env, S, as, E, Qd, he, hs, hx, ht, k⟩ => ?_
    refine lt_mk he hs hx ht fun b H1 as1 S1 e1 he1 hs1 hx1 q1 => ?_
    cases b with
    | false => exact k _ _ _ _ e1 hs1 q1
    | true => exact lt_mk he1 hs1 hx1 q1 fun b H2 as2 S2 e2 he2 hs2 hx2 q2 => k _ _ _ _ (e1.trans e2) hs2 q2
theorem t_or {f : Expr → Option ST} (hf : ∀ {e : Expr} {t : ST}, f e = some t → PT X e (LT G W t)) {pos : Pos} : ∀ {es : List Expr} {t : ST}, ttOr f es = some t → PW X (.BoolOp .Or es pos) (LT G W t)
  | [], _, h => by cases h
  | [e], t, h => pw_or1 (hf h)
  | e :: e2 :: es, t, h => by
    unfold ttOr at h
    obtain ⟨ta, h1, h2⟩ := Option.bind_eq_some_iff.mp h
    obtain ⟨tb, h3, rfl⟩ := Option.map_eq_some_iff.mp h2
    refine PW.imp (pw_or (hf h1) (t_or hf h3)) fun σ H Q ⟨env, S, as, E, Qd, he, hs, hx, ht, k⟩ => ?_
    refine lt_mk he hs hx ht fun b H1 as1 S1 e1 he1 hs1 hx1 q1 => ?_
    cases b with
    | true => exact k _ _ _ _ e1 hs1 q1
    | false => exact lt_mk he1 hs1 hx1 q1 fun b H2 as2 S2 e2 he2 hs2 hx2 q2 => k _ _ _ _ (e1.trans e2) hs2 q2
end
end SD

-- SD10
set_option Elab.async false
set_option linter.all false
set_option maxRecDepth 100000
set_option maxHeartbeats 2000000
namespace SD
open PySem L2
section
variable {G : GC} {C : TC} {X : Cx} {W : WX} {H : Hp} {as : List Addr} {S : Store}
/-- a list or a tuple, walked -/
theorem pi_seq {tg l : Expr} {tl : TE} (hl : PE X l tl) : PI X tg l (fun σ H R => tl σ H fun x H1 => ∃ a, x = .ref a ∧ (((∃ xs, SqL X.K H1 a xs) ∧ R (Itl X.K a) H1) ∨ ((∃ xs, SqT X.K H1 a xs) ∧ R (Itt X.K a) H1))) := by
  refine ⟨fun pins s σ H R I h => thn (hl.run pins s σ H _ I h) fun v s1 ⟨x, H1, I1, r1, a, ex, q1⟩ => ?_⟩
  subst ex
  cases r1
  have fp : ∀ b ∈ [s1.heap.objs.size], FpOk X pins H1 b := fun b hb => by
    rw [List.mem_singleton.mp hb]
    exact I1.fpOk (Nat.le_refl _) (I1.hok.fresh (Nat.le_refl _))
  rcases q1 with ⟨⟨xs, hq⟩, q⟩ | ⟨⟨xs, hq⟩, q⟩
  · obtain ⟨its, rv, p, hz⟩ := I1.list hq
    exact wpAny_pyIter_list p.isList ⟨_, [s1.heap.objs.size], _, _, H1, rfl, I1.kept (t' := s1.toks) fun b o e => Heap.get?_push_of_some _ e, turn_list a _, ⟨_, Heap.get?_push_size _ rfl, rfl, rfl⟩, fp, q⟩
  · obtain ⟨its, rv, p, hz⟩ := I1.tuple hq
    exact wpAny_pyIter_tuple p ⟨_, [s1.heap.objs.size], _, _, H1, rfl, I1.kept (t' := s1.toks) fun b o e => Heap.get?_push_of_some _ e, turn_tuple a _, ⟨_, Heap.get?_push_size _ rfl, rfl, rfl⟩, fp, q⟩
theorem sqT_inj {K : PySem.W.Frag} {a : Addr} {xs ys : List V} (h : SqT K H a xs) (k : SqT K H a ys) (hw : ∀ (o : Obj), K.lookup a = some o → True) : (H a = some (.tup xs) ∨ (∃ o, H a = some (.frz o (.tup xs))) ∨ ∃ o, K.lookup a = some o) := by
  rcases h with (h | h) | ⟨o, _, _, h, _⟩
  · exact .inl h
  · exact .inr (.inl h)
  · exact .inr (.inr ⟨o, h⟩)
/-- a tuple's turns -/
theorem iter_tup {a : Addr} {vs : List V} {ds : List D} (hK : X.K = G.K) (hs : RepS G H as S) (h : SqT X.K H a vs) (r : Reps G H as ds vs) : IterOk G (Itt X.K a) ds (fun _ => True) H as := by
  refine ⟨fun i H' as' S' e r' _ hi => ?_, fun i H' as' S' x H2 d e r' _ y hd => ?_, fun H' as' S' e r' _ => ?_⟩
  · have q := e.tup hs h
    have hv : i < vs.length := by rw [r.length]; exact hi
    exact ⟨vs, vs[i], q, List.getElem?_eq_getElem hv⟩
  · obtain ⟨rfl, y⟩ := y
    obtain ⟨v, q1, q2⟩ := (Reps.mono hs e ds vs r).get hd
    have q := y vs (e.tup hs h)
    rw [q1] at q
    cases q
    exact ⟨.refl _ _, r', q2⟩
  · exact ⟨vs, e.tup hs h, by rw [r.length]; exact Nat.le_refl _⟩
/-- a list's turns, while it stands -/
theorem iter_lst {a : Addr} {k : Nat} {ds : List D} (hs : RepS G H as S) (ha : as[k]? = some a) : IterOk G (Itl X.K a) ds (fun S' => S'[k]? = some (.lst ds)) H as := by
  refine ⟨fun i H' as' S' e r' q hi => ?_, fun i H' as' S' x H2 d e r' q y hd => ?_, fun H' as' S' e r' q => ?_⟩
  · obtain ⟨vs, q1, r1⟩ := r'.list (e.get ha) q
    have hv : i < vs.length := by rw [r1.length]; exact hi
    exact ⟨vs, vs[i], .inl (.inl q1), List.getElem?_eq_getElem hv⟩
  · obtain ⟨vs, q1, r1⟩ := r'.list (e.get ha) q
    obtain ⟨rfl, y⟩ := y
    obtain ⟨v, q2, q3⟩ := r1.get hd
    have z := y vs (.inl (.inl q1))
    rw [q2] at z
    cases z
    exact ⟨.refl _ _, r', q3⟩
  · obtain ⟨vs, q1, r1⟩ := r'.list (e.get ha) q
    exact ⟨vs, .inl (.inl q1), by rw [r1.length]; exact Nat.le_refl _⟩
theorem i_seq {tg l : Expr} {t : SE} (c : CtxOk G C X W) (hl : PE X l (LE G W t)) : PI X tg l (LI G W (iE t)) := by
  refine PI.imp (pi_seq hl) fun σ H R ⟨env, S, as, E, Qi, he, hs, hx, ht, k⟩ => ?_
  refine le_mk he hs hx ht fun v H1 as1 d S1 e1 he1 hs1 hx1 r1 q1 => ?_
  unfold iterD at q1
  split at q1
  · obtain ⟨p, vs, rfl, h1, h2⟩ := r1
    exact ⟨p, rfl, .inr ⟨⟨vs, c.K ▸ h1⟩, k _ _ _ _ _ _ e1 he1 hs1 hx1 q1 (iter_tup c.K hs1 (c.K ▸ h1) h2)⟩⟩
  · obtain ⟨a, rfl, ha⟩ := r1
    obtain ⟨xs, e2, q1⟩ := cellL_get q1
    obtain ⟨vs, q2, r2⟩ := hs1.list ha e2
    exact ⟨a, rfl, .inl ⟨⟨vs, .inl (.inl q2)⟩, k _ _ _ _ _ _ e1 he1 hs1 hx1 q1 (iter_lst hs1 ha)⟩⟩
  · exact q1.elim
theorem range_get {lo hi : Int} {i : Nat} {d : D} (h : (iRange lo hi)[i]? = some d) : d = .int (lo + i) := by
  unfold iRange at h
  rw [List.getElem?_map] at h
  obtain ⟨j, e, rfl⟩ := Option.map_eq_some_iff.mp h
  have := List.getElem?_eq_some_iff.mp e
  obtain ⟨h1, h2⟩ := this
  rw [List.getElem_range] at h2
  rw [h2]
theorem range_len {lo hi : Int} : (iRange lo hi).length = (hi - lo).toNat := by
  unfold iRange
  rw [List.length_map, List.length_range]
theorem iter_rng {lo hi : Int} : IterOk G (Itr lo (hi - lo).toNat) (iRange lo hi) (fun _ => True) H as := by
  refine ⟨fun i H' as' S' e r' _ h => by rw [range_len] at h; exact h, fun i H' as' S' x H2 d e r' _ y hd => ?_, fun H' as' S' e r' _ => by rw [range_len]; exact Nat.le_refl _⟩
  obtain ⟨rfl, rfl⟩ := y
  rw [range_get hd]
  exact ⟨.refl _ _, r', rfl⟩
theorem i_range1 {tg a : Expr} {t : SE} {fp pos : Pos} (c : CtxOk G C X W) (hg : glK (C.sc.names.lookup ("range" : Str)) = true) (hpe : plainE a = true) (ha : PE X a (LE G W t)) : PI X tg (.Call (.Name "range" fp) [a] [] pos) (LI G W (iRange1 t)) := by
  have sc := star_cons (es := []) hpe X.env
  refine PI.imp (pi_range1 (gl_of c hg) (c.bi _ (by decide +kernel)) (pa_cons ha pa_nil sc) sc) fun σ H R ⟨env, S, as, E, Qi, he, hs, hx, ht, k⟩ => ?_
  refine le_mk he hs hx ht fun v H1 as1 d S1 e1 he1 hs1 hx1 r1 q1 => ?_
  split at q1
  · cases r1
    rename_i j
    refine ⟨j, rfl, q1.1.1, q1.1.2, k _ _ _ _ _ _ e1 he1 hs1 hx1 q1.2 ?_⟩
    have := iter_rng (G := G) (H := H1) (as := as1) (lo := 0) (hi := j)
    rw [Int.sub_zero] at this
    exact this
  · exact q1.elim
theorem i_range2 {tg a b : Expr} {t u : SE} {fp pos : Pos} (c : CtxOk G C X W) (hg : glK (C.sc.names.lookup ("range" : Str)) = true) (hpa : plainE a = true) (hpb : plainE b = true) (ha : PE X a (LE G W t)) (hb : PE X b (LE G W u)) : PI X tg (.Call (.Name "range" fp) [a, b] [] pos) (LI G W (iRange2 t u)) := by
  have sc := star_cons (es := [b]) hpa X.env
  have sd := star_cons (es := []) hpb X.env
  refine PI.imp (pi_range2 (gl_of c hg) (c.bi _ (by decide +kernel)) (pa_cons ha (pa_cons hb pa_nil sd) sc) (by rw [sc, sd]; rfl) sd) fun σ H R ⟨env, S, as, E, Qi, he, hs, hx, ht, k⟩ => ?_
  refine le_mk he hs hx ht fun v H1 as1 d S1 e1 he1 hs1 hx1 r1 q1 => ?_
  refine le_mk he1 hs1 hx1 q1 fun v2 H2 as2 d2 S2 e2 he2 hs2 hx2 r2 q2 => ?_
  split at q2
  · cases r1
    cases r2
    exact ⟨_, _, rfl, q2.1, k _ _ _ _ _ _ (e1.trans e2) he2 hs2 hx2 q2.2 iter_rng⟩
  · exact q2.elim
theorem pairs_get {xs ys : List D} {i : Nat} {d : D} (h : (pairs xs ys)[i]? = some d) : ∃ x y, xs[i]? = some x ∧ ys[i]? = some y ∧ d = .tup [x, y] := by
  unfold pairs at h
  rw [List.getElem?_zipWith] at h
  cases e1 : xs[i]? with
  | none => rw [e1] at h; simp at h
  | some x =>
    cases e2 : ys[i]? with
    | none => rw [e1, e2] at h; simp at h
    | some y =>
      rw [e1, e2] at h
      exact ⟨x, y, rfl, rfl, (Option.some.inj h).symm⟩
theorem pairs_len {xs ys : List D} : (pairs xs ys).length = min xs.length ys.length := by
  unfold pairs
  rw [List.length_zipWith]
theorem rep_pair {T : Addr} {x y : V} {d e : D} (hs : RepS G H as S) (hT : H T = none) (hx : Rep G H as d x) (hy : Rep G H as e y) : Ext H as (upd H T (.tup [x, y])) as ∧ RepS G (upd H T (.tup [x, y])) as S ∧ Rep G (upd H T (.tup [x, y])) as (.tup [d, e]) (.ref T) := by
  have ex := Ext.tuple (xs := [x, y]) hs hT
  exact ⟨ex, hs.other hT, T, _, rfl, .inl (.inl upd_same), x, [y], rfl, Rep.mono hs ex _ _ hx, y, [], rfl, Rep.mono hs ex _ _ hy, rfl⟩
theorem iter_zipT {a b : Addr} {vs ws : List V} {xs ys : List D} (hs : RepS G H as S) (h1 : SqT X.K H a vs) (r1 : Reps G H as xs vs) (h2 : SqT X.K H b ws) (r2 : Reps G H as ys ws) : IterOk G (RZ.ItzT X.K a b) (pairs xs ys) (fun _ => True) H as := by
  refine ⟨fun i H' as' S' e r' _ hi => ?_, fun i H' as' S' x H2 d e r' _ y hd => ?_, fun H' as' S' e r' _ => ?_⟩
  · rw [pairs_len] at hi
    have hv : i < vs.length := by rw [r1.length]; omega
    have hw : i < ws.length := by rw [r2.length]; omega
    exact ⟨vs, ws, _, _, e.tup hs h1, e.tup hs h2, List.getElem?_eq_getElem hv, List.getElem?_eq_getElem hw⟩
  · obtain ⟨T, u, v, rfl, hT, rfl, f1, f2⟩ := y
    obtain ⟨dx, dy, g1, g2, rfl⟩ := pairs_get hd
    obtain ⟨u', q1, q2⟩ := (Reps.mono hs e _ _ r1).get g1
    obtain ⟨v', q3, q4⟩ := (Reps.mono hs e _ _ r2).get g2
    have z1 := f1 vs (e.tup hs h1)
    have z2 := f2 ws (e.tup hs h2)
    rw [q1] at z1; cases z1
    rw [q3] at z2; cases z2
    exact rep_pair r' hT q2 q4
  · refine ⟨vs, ws, e.tup hs h1, e.tup hs h2, ?_⟩
    rw [pairs_len, r1.length, r2.length]
    omega
theorem iter_zipL {a b : Addr} {j k : Nat} {xs ys : List D} (hs : RepS G H as S) (ha : as[j]? = some a) (hb : as[k]? = some b) : IterOk G (Itz X.K a b) (pairs xs ys) (fun S' => S'[j]? = some (.lst xs) ∧ S'[k]? = some (.lst ys)) H as := by
  refine ⟨fun i H' as' S' e r' q hi => ?_, fun i H' as' S' x H2 d e r' q y hd => ?_, fun H' as' S' e r' q => ?_⟩
  · obtain ⟨vs, q1, r1⟩ := r'.list (e.get ha) q.1
    obtain ⟨ws, q2, r2⟩ := r'.list (e.get hb) q.2
    rw [pairs_len] at hi
    have hv : i < vs.length := by rw [r1.length]; omega
    have hw : i < ws.length := by rw [r2.length]; omega
    exact ⟨vs, ws, _, _, .inl (.inl q1), .inl (.inl q2), List.getElem?_eq_getElem hv, List.getElem?_eq_getElem hw⟩
  · obtain ⟨vs, q1, r1⟩ := r'.list (e.get ha) q.1
    obtain ⟨ws, q2, r2⟩ := r'.list (e.get hb) q.2
    obtain ⟨T, u, v, rfl, hT, rfl, f1, f2⟩ := y
    obtain ⟨dx, dy, g1, g2, rfl⟩ := pairs_get hd
    obtain ⟨u', p1, p2⟩ := r1.get g1
    obtain ⟨v', p3, p4⟩ := r2.get g2
    have z1 := f1 vs (.inl (.inl q1))
    have z2 := f2 ws (.inl (.inl q2))
    rw [p1] at z1; cases z1
    rw [p3] at z2; cases z2
    exact rep_pair r' hT p2 p4
  · obtain ⟨vs, q1, r1⟩ := r'.list (e.get ha) q.1
    obtain ⟨ws, q2, r2⟩ := r'.list (e.get hb) q.2
    refine ⟨vs, ws, .inl (.inl q1), .inl (.inl q2), ?_⟩
    rw [pairs_len, r1.length, r2.length]
    omega
theorem i_zip {tg a b : Expr} {t u : SE} {fp pos : Pos} (c : CtxOk G C X W) (ht : isTupE tg = true) (hg : glK (C.sc.names.lookup ("zip" : Str)) = true) (hpa : plainE a = true) (hpb : plainE b = true) (ha : PE X a (LE G W t)) (hb : PE X b (LE G W u)) : PI X tg (.Call (.Name "zip" fp) [a, b] [] pos) (LI G W (iZip t u)) := by
  have sc := star_cons (es := [b]) hpa X.env
  have sd := star_cons (es := []) hpb X.env
  cases tg <;> first | (cases ht; done) | skip
  refine PI.imp (RZ.pi_zipA (gl_of c hg) (c.bi _ (by decide +kernel)) (pa_cons ha (pa_cons hb pa_nil sd) sc) sc (by rw [sd]; rfl)) fun σ H R ⟨env, S, as, E, Qi, he, hs, hx, ht, k⟩ => ?_
  refine le_mk he hs hx ht fun v H1 as1 d S1 e1 he1 hs1 hx1 r1 q1 => ?_
  refine le_mk he1 hs1 hx1 q1 fun v2 H2 as2 d2 S2 e2 he2 hs2 hx2 r2 q2 => ?_
  have r1' := Rep.mono hs1 e2 _ _ r1
  unfold zipD at q2
  split at q2
  · obtain ⟨p, vs, rfl, h1, h2⟩ := r1'
    obtain ⟨p2, ws, rfl, h3, h4⟩ := r2
    exact ⟨p, p2, vs, ws, rfl, .inr ⟨c.K ▸ h1, c.K ▸ h3, k _ _ _ _ _ _ (e1.trans e2) he2 hs2 hx2 q2 (iter_zipT hs2 (c.K ▸ h1) h2 (c.K ▸ h3) h4)⟩⟩
  · obtain ⟨p, rfl, h1⟩ := r1'
    obtain ⟨p2, rfl, h3⟩ := r2
    obtain ⟨xs, e3, q2⟩ := cellL_get q2
    obtain ⟨ys, e4, q2⟩ := cellL_get q2
    obtain ⟨vs, z1, z2⟩ := hs2.list h1 e3
    obtain ⟨ws, z3, z4⟩ := hs2.list h3 e4
    exact ⟨p, p2, vs, ws, rfl, .inl ⟨.inl (.inl z1), .inl (.inl z3), k _ _ _ _ _ _ (e1.trans e2) he2 hs2 hx2 q2 (iter_zipL hs2 h1 h3)⟩⟩
  · exact q2.elim
/-! targets -/
theorem repE_set {env : Env} {σ : St} {i : Nat} {d : D} {v : V} (he : RepE G H as env σ) (r : Rep G H as d v) : RepE G H as (env.set i (some d)) (σ.set i (some v)) := by
  refine ⟨by rw [List.length_set, List.length_set, he.len], fun j d' q => ?_⟩
  by_cases e : i = j
  · subst e
    have hi : i < env.length := by
      have := (List.getElem?_eq_some_iff.mp q).1
      rwa [List.length_set] at this
    rw [List.getElem?_set_self hi] at q
    cases q
    exact ⟨v, List.getElem?_set_self (by rw [← he.len]; exact hi), r⟩
  · rw [List.getElem?_set_ne e] at q
    rw [List.getElem?_set_ne e]
    exact he.get j d' q
theorem g_var {x : Str} {i : Nat} {pos : Pos} (c : CtxOk G C X W) (ht : tgB C x = true) (hi : ixOf C.N x = some i) : PG X (.Name x pos) (LG G C W (gVar i)) := by
  obtain ⟨h1, h2⟩ := c.tg x ht
  refine PG.imp (pg_name (i := i) (c.N ▸ c.nd) (by rw [c.N]; exact ixOf_get hi) h1 h2) fun v σ H Q ⟨env, S, as, d, Qn, he, hs, r, ht', k⟩ => ?_
  refine k _ H as _ S (.refl _ _) (repE_set he r) hs (List.length_set ..) (fun j hj => ?_) ht'
  have e : i ≠ j := fun e => hj ⟨x, ht, e ▸ hi⟩
  rw [List.getElem?_set_ne e]
/-- targets in a row -/
def LGs (G : GC) (C : TC) (gs : List SG) : TGs := fun vs σ H Q => ∃ (env : Env) (S : Store) (as : List Addr) (ds : List D) (Qn : QN), RepE G H as env σ ∧ RepS G H as S ∧ Reps G H as ds vs ∧ gSeq gs ds env S noX Qn ∧
  ∀ σ' H' as' env' S', Ext H as H' as' → RepE G H' as' env' σ' → RepS G H' as' S' → σ'.length = σ.length → (∀ j, ¬ Own C j → σ'[j]? = σ[j]?) → Qn env' S' → Q σ' H'
theorem PGs.imp {es : List Expr} {t t' : TGs} (h : PGs X es t) (i : ∀ vs σ H Q, t' vs σ H Q → t vs σ H Q) : PGs X es t' := ⟨fun pins s σ H vs us Q I r q => h.run pins s σ H vs us Q I r (i vs σ H Q q)⟩
theorem asg_cons {e : Expr} {es : List Expr} (h : plainE e = true) (env : PySem.Env) : assignEach (e :: es) env = (false, assign e env) :: assignEach es env := by
  cases e <;> first | rfl | cases h
theorem g_seq {f : Expr → Option SG} (hf : ∀ {e : Expr} {t : SG}, f e = some t → PG X e (LG G C W t)) : ∀ {es : List Expr} {gs : List SG}, plainEs es = true → trL f es = some gs → PGs X es (LGs G C gs)
  | [], gs, _, h => by
    cases h
    refine PGs.imp pgs_nil fun vs σ H Q ⟨env, S, as, ds, Qn, he, hs, r, ht, k⟩ => ?_
    cases ds with
    | nil => exact ⟨r, k σ H as env S (.refl _ _) he hs rfl (fun _ _ => rfl) ht⟩
    | cons d ds => exact ht.elim
  | e :: es, gs, hp, h => by
    unfold plainEs at hp
    rw [Bool.and_eq_true] at hp
    unfold trL at h
    obtain ⟨g, h1, h2⟩ := Option.bind_eq_some_iff.mp h
    obtain ⟨gs', h3, rfl⟩ := Option.map_eq_some_iff.mp h2
    refine PGs.imp (pgs_cons (hf h1) (g_seq hf hp.2 h3) (by rw [asg_cons hp.1]; rfl)) fun vs σ H Q ⟨env, S, as, ds, Qn, he, hs, r, ht, k⟩ => ?_
    cases ds with
    | nil => exact ht.elim
    | cons d ds =>
      obtain ⟨v, vr, rfl, r1, r2⟩ := r
      refine ⟨v, vr, rfl, env, S, as, d, _, he, hs, r1, ht, fun σ1 H1 as1 env1 S1 e1 he1 hs1 l1 o1 q1 => ?_⟩
      exact ⟨env1, S1, as1, ds, Qn, he1, hs1, Reps.mono hs e1 _ _ r2, q1, fun σ2 H2 as2 env2 S2 e2 he2 hs2 l2 o2 q2 => k σ2 H2 as2 env2 S2 (e1.trans e2) he2 hs2 (l2.trans l1) (fun j hj => (o2 j hj).trans (o1 j hj)) q2⟩
theorem asg_len (env : PySem.Env) : ∀ {es : List Expr}, plainEs es = true → (assignEach es env).length = es.length ∧ (assignEach es env).findIdx? (·.1) = none
  | [], _ => ⟨rfl, rfl⟩
  | e :: es, h => by
    unfold plainEs at h
    rw [Bool.and_eq_true] at h
    obtain ⟨h1, h2⟩ := asg_len env h.2
    rw [asg_cons h.1]
    refine ⟨by rw [List.length_cons, List.length_cons, h1], ?_⟩
    rw [List.findIdx?_cons]
    simp [h2]
theorem g_tup {es : List Expr} {gs : List SG} {k : Nat} {pos : Pos} (c : CtxOk G C X W) (hcalm : C.calm = true) (hp : plainEs es = true) (hlen : gs.length = es.length) (h : PGs X es (LGs G C gs)) : PG X (.Tuple es k pos) (LG G C W (gTup gs)) := by
  obtain ⟨h1, h2⟩ := asg_len X.env hp
  have p1 := pg_tup (pos := pos) (k := k) (c.calm hcalm) h h1 h2
  have p2 := pg_unl (pos := pos) (k := k) (c.calm hcalm) h h1 h2
  have p3 : PG X (.Tuple es k pos) (fun v σ H Q => L2.gTup X.K es.length (LGs G C gs) v σ H Q ∨ gUnl X.K es.length (LGs G C gs) v σ H Q) :=
    ⟨fun pins s σ H v u Q I r hw => hw.elim (fun hw => p1.run pins s σ H v u Q I r hw) (fun hw => p2.run pins s σ H v u Q I r hw)⟩
  refine PG.imp p3 fun v σ H Q ⟨env, S, as, d, Qn, he, hs, r, ht, k⟩ => ?_
  unfold gTup at ht
  split at ht
  · obtain ⟨a, vs, rfl, q1, q2⟩ := r
    refine .inl ⟨a, vs, rfl, c.K ▸ q1, ?_, env, S, as, _, Qn, he, hs, q2, ht.2, k⟩
    rw [q2.length, ht.1, hlen]
  · obtain ⟨xs, e1, ht⟩ := cellL_get ht
    obtain ⟨a, rfl, ha⟩ := r
    obtain ⟨vs, q, q2⟩ := hs.list ha e1
    refine .inr ⟨a, vs, rfl, .inl (.inl q), ?_, env, S, as, _, Qn, he, hs, q2, ht.2, k⟩
    rw [q2.length, ht.1, hlen]
  · exact ht.elim
theorem g_ix {o i : Expr} {to ti : SE} {pos : Pos} (hs' : isSl i = false) (ho : PE X o (LE G W to)) (hi : PE X i (LE G W ti)) : PG X (.Subscript o i pos) (LG G C W (gIx to ti)) := by
  refine PG.imp (pg_sub ho hi (set_run (G := G)) (by cases i <;> first | (intro v; rfl) | cases hs')) fun v σ H Q ⟨env, S, as, d, Qn, he, hs, r, ht, k⟩ => ?_
  · have hx : ExOk G (fun c d h => W c d σ h) H as noX := fun _ _ _ _ _ _ _ _ _ z => z.elim
    refine le_mk he hs hx ht fun v1 H1 as1 d1 S1 e1 he1 hs1 hx1 r1 q1 => ?_
    refine le_mk he1 hs1 hx1 q1 fun v2 H2 as2 d2 S2 e2 he2 hs2 hx2 r2 q2 => ?_
    exact ⟨S2, as2, d1, d2, d, _, hs2, Rep.mono hs1 e2 _ _ r1, r2, Rep.mono hs1 e2 _ _ (Rep.mono hs e1 _ _ r), q2, fun H3 S3 e3 hs3 q3 => k σ H3 as2 env S3 ((e1.trans e2).trans e3) (he2.mono hs2 e3) hs3 rfl (fun _ _ => rfl) q3⟩
end
end SD

-- SD11
set_option Elab.async false
set_option linter.all false
set_option maxRecDepth 100000
set_option maxHeartbeats 2000000
namespace SD
open PySem L2
section
variable {G : GC} {C : TC} {X : Cx} {W : WX} {H : Hp} {as : List Addr} {S : Store}
/-! comprehensions -/
/-- a new list at L, not yet among the known ones -/
def LC (G : GC) (W : WX) (t : Env → Store → QX → QL → Prop) : TE := fun σ H Q => ∃ (env : Env) (S : Store) (as : List Addr) (E : QX) (Ql : QL),
  RepE G H as env σ ∧ RepS G H as S ∧ ExOk G (fun c d h => W c d σ h) H as E ∧ t env S E Ql ∧
    ∀ L vs H' as' ys S', Ext H as H' as' → RepE G H' as' env σ → RepS G H' as' S' → H' L = some (.lst vs) → L ∉ as' → H L = none → Reps G H' as' ys vs → vs.length ≤ sizeLine → Ql ys S' → Q (.ref L) H'
theorem repE_wipe {env : Env} {σ : St} (he : RepE G H as env σ) : ∀ (vs : List Nat), RepE G H as (wipeE env vs) (wipe σ vs)
  | [] => he
  | v :: vs => by
    have ih := repE_wipe he vs
    unfold wipeE wipe
    refine ⟨by rw [List.length_set, List.length_set, ih.len], fun j d q => ?_⟩
    by_cases e : v = j
    · subst e
      by_cases hv : v < (wipeE env vs).length
      · rw [List.getElem?_set_self hv] at q; cases q
      · rw [List.getElem?_eq_none (by rw [List.length_set]; omega)] at q; cases q
    · rw [List.getElem?_set_ne e] at q
      rw [List.getElem?_set_ne e]
      exact ih.get j d q
theorem wipe_same : ∀ {vs : List Nat} {σ σ' : St}, σ'.length = σ.length → (∀ j, j ∉ vs → σ'[j]? = σ[j]?) → wipe σ' vs = wipe σ vs := by
  intro vs σ σ' hl h
  refine List.ext_getElem? fun j => ?_
  by_cases hj : j ∈ vs
  · have key : ∀ (τ : St), j < τ.length → (wipe τ vs)[j]? = some none := by
      intro τ ht
      clear h hl
      induction vs with
      | nil => simp at hj
      | cons v vs ih =>
        unfold wipe
        by_cases e : v = j
        · subst e
          rw [List.getElem?_set_self (by rw [wipe_length]; exact ht)]
        · rw [List.getElem?_set_ne e]
          exact ih (by
            rcases List.mem_cons.mp hj with z | z
            · exact absurd z.symm e
            · exact z)
    by_cases hl' : j < σ.length
    · rw [key σ hl', key σ' (by rw [hl]; exact hl')]
    · rw [List.getElem?_eq_none (by rw [wipe_length]; omega), List.getElem?_eq_none (by rw [wipe_length]; omega)]
  · rw [wipe_out hj, wipe_out hj]
    exact h j hj
theorem wipe_wipe {vs : List Nat} {σ : St} : wipe (wipe σ vs) vs = wipe σ vs := wipe_same (wipe_length _ _) fun j hj => wipe_out hj
/-- the context of a comprehension's block -/
abbrev TC.blk (C : TC) (scope : Scope) : TC := ⟨C.N, relS scope C.sc, some scope, true, C.T⟩
theorem locK_iff {k : Option NameKind} (h : locK k = true) : k = some .local ∨ k = some .cell := by
  unfold locK at h
  split at h
  · exact .inl rfl
  · exact .inr rfl
  · cases h
theorem ctx_blk (c : CtxOk G C X W) (hcalm : C.calm = true) {scope : Scope} {own : List (Str × Nat)} (ok : BlkOk X.N X.env.scope scope own) (s : Shared) (H : Hp) (A : Addr) (cl : List (Str × Addr)) (fp : List Addr) :
    CtxOk G (C.blk scope) (X.blk s H scope (compEnvC scope cl A X.env) fp) (fun _ _ _ _ => False) where
  K := c.K
  N := c.N
  sc := by
    show relS scope X.env.scope = relS scope C.sc
    rw [c.sc]
  nd := c.nd
  kind := ok.kind
  calm := fun _ => c.calm hcalm
  room := fun _ => c.room hcalm
  units := c.units
  guards := c.guards
  tg := fun x hx => by
    have hx' : (locK (scope.names.lookup x) && locK ((relS scope C.sc).names.lookup x)) = true := hx
    rw [Bool.and_eq_true] at hx'
    rw [← c.sc] at hx'
    refine ⟨locK_iff hx'.2, ?_⟩
    rcases locK_iff hx'.1 with e | e
    · exact .inr (lookup_relS_keep (by decide) e)
    · refine .inl ?_
      show (scope.names.lookup x == some .cell) = true
      rw [e]
      rfl
  bi := c.bi
  glob := c.glob
  sp := fun _ f d e => ⟨(c.sp hcalm f d e).ex⟩
  tk := takes_none5
  po := PassesOwn.never
/-- the names of a block that may be stored are its own -/
theorem own_mem {N : List Str} {x : Str} {j : Nat} (hj : ixOf N x = some j) : ∀ {l : List (Str × NameKind)}, locK (l.lookup x) = true → j ∈ (ownOf N l).map Prod.snd
  | [], h => by simp [locK] at h
  | (y, k) :: r, h => by
    rw [List.lookup_cons] at h
    cases e : (x == y) with
    | true =>
      rw [e] at h
      have ey : x = y := eq_of_beq e
      subst ey
      have h' : locK (some k) = true := h
      unfold ownOf
      rw [h', hj]
      exact List.mem_cons_self
    | false =>
      rw [e] at h
      have ih := own_mem hj (l := r) h
      unfold ownOf
      split
      · exact List.mem_cons_of_mem _ ih
      · exact ih
theorem lc_imp {scope : Scope} {si : SI} {sg : SG} {st : ST} {se : SE} {σ : St} {H : Hp} {Q : VK} (h : LC G W (cComp si ((ownOf C.N scope.names).map Prod.snd) sg st se) σ H Q) :
    tLc (LI G W si) (LG G (C.blk scope) (fun _ _ _ _ => False) sg) (LT G (fun _ _ _ _ => False) st) (LE G (fun _ _ _ _ => False) se) ((ownOf C.N scope.names).map (·.2)) σ H Q := by
  obtain ⟨env, S, as, E, Ql, henv, hs, hx, hc, k⟩ := h
  generalize hvs : (ownOf C.N scope.names).map Prod.snd = own at hc
  refine ⟨env, S, as, E, _, henv, hs, hx, hc, fun J ds keep H1 as1 S1 e1 he1 hs1 hx1 q1 it L hL => ?_⟩
  obtain ⟨hlen, q1⟩ := q1
  have eL : Ext H1 as1 (upd H1 L (.lst [])) as1 := ⟨⟨[], by simp⟩, fun p o h _ => by rw [upd_ne (ne_of_none h hL)]; exact h, fun a h n => absurd h n⟩
  have nL : L ∉ as1 := fun m => by
    obtain ⟨xs, z⟩ := hs1.lists m
    rw [hL] at z; cases z
  refine ⟨fun i m H' => m = ds.length - i ∧ i ≤ ds.length ∧ ∃ (as' : List Addr) (S' : Store) (acc : List V) (ys : List D), Ext H1 as1 H' as' ∧ RepS G H' as' S' ∧ H' L = some (.lst acc) ∧ L ∉ as' ∧ Reps G H' as' ys acc ∧ ys.length ≤ i ∧
      compLoop keep sg st se (wipeE env own) (ds.drop i) S' (fun zs S2 => Ql (ys ++ zs) S2),
    ⟨ds.length, rfl, Nat.zero_le _, as1, S1, [], [], eL, hs1.other hL, upd_same, nL, rfl, Nat.le_refl _, by simpa using q1⟩, ?_⟩
  rintro i m H' ⟨rfl, hi', as', S', acc, ys, e2, hs2, hL2, nL2, r2, ly, q2⟩
  have it2 := it.later e2
  have e12 : Ext H as H' as' := e1.trans e2
  by_cases hlt : i < ds.length
  · have hd : ds.drop i = ds[i] :: ds.drop (i + 1) := List.drop_eq_getElem_cons hlt
    rw [hd] at q2
    obtain ⟨kp, q2⟩ := q2
    refine .inr ⟨it2.go i H' as' S' (.refl _ _) hs2 kp hlt, fun H3 => ds.length - (i + 1) = ds.length - (i + 1) ∧ i + 1 ≤ ds.length ∧ ∃ (as' : List Addr) (S' : Store) (acc : List V) (ys : List D), Ext H1 as1 H3 as' ∧ RepS G H3 as' S' ∧ H3 L = some (.lst acc) ∧ L ∉ as' ∧ Reps G H3 as' ys acc ∧ ys.length ≤ i + 1 ∧
      compLoop keep sg st se (wipeE env own) (ds.drop (i + 1)) S' (fun zs S2 => Ql (ys ++ zs) S2), fun H3 z => ⟨_, by omega, z⟩, fun x H3 y => ?_⟩
    obtain ⟨e3, hs3, r3⟩ := it2.yld i H' as' S' x H3 ds[i] (.refl _ _) hs2 kp y (List.getElem?_eq_getElem hlt)
    have hL3 : H3 L = some (.lst acc) := e3.keep _ _ hL2 nL2
    have he3 : RepE G H3 as' (wipeE env own) (wipe σ own) := repE_wipe (henv.mono hs (e12.trans e3)) own
    refine ⟨wipeE env own, S', as', ds[i], _, he3, hs3, r3, q2, fun σ4 H4 as4 env4 S4 e4 he4 hs4 l4 o4 q4 => ?_⟩
    have hL4 : H4 L = some (.lst acc) := e4.keep _ _ hL3 nL2
    have nL4 : L ∉ as4 := fun m => by
      have z := e4.fresh L m nL2
      rw [hL3] at z; cases z
    have z4 : wipe σ4 own = wipe σ own := by
      rw [← wipe_wipe (σ := σ)]
      refine wipe_same l4 fun j hj => o4 j fun ⟨x, hx1, hx2⟩ => hj ?_
      have hx1' : (locK (scope.names.lookup x) && locK ((relS scope C.sc).names.lookup x)) = true := hx1
      rw [Bool.and_eq_true] at hx1'
      rw [← hvs]
      exact own_mem hx2 hx1'.1
    refine ⟨z4, env4, S4, as4, noX, _, he4, hs4, fun _ _ _ _ _ _ _ _ _ z => z.elim, q4, fun b H5 as5 S5 e5 hs5 q5 => ?_⟩
    have hL5 : H5 L = some (.lst acc) := e5.keep _ _ hL4 nL4
    have nL5 : L ∉ as5 := fun m => by
      have z := e5.fresh L m nL4
      rw [hL4] at z; cases z
    have r5 : Reps G H5 as5 ys acc := Reps.mono hs4 e5 _ _ (Reps.mono hs3 e4 _ _ (Reps.mono hs2 e3 _ _ r2))
    have e25 := ((e2.trans e3).trans e4).trans e5
    cases b with
    | false =>
      refine iteF ?_
      exact ⟨rfl, hlt, as5, S5, acc, ys, e25, hs5, hL5, nL5, r5, by omega, q5⟩
    | true =>
      refine iteT ?_
      refine ⟨env4, S5, as5, noX, _, he4.mono hs4 e5, hs5, fun _ _ _ _ _ _ _ _ _ z => z.elim, q5, fun v H6 as6 d6 S6 e6 hs6 r6 q6 => ?_⟩
      have hL6 : H6 L = some (.lst acc) := e6.keep _ _ hL5 nL5
      have nL6 : L ∉ as6 := fun m => by
        have z := e6.fresh L m nL5
        rw [hL5] at z; cases z
      have r6' := Reps.mono hs5 e6 _ _ r5
      have la : acc.length < sizeLine := by rw [r6'.length]; omega
      refine ⟨acc, hL6, la, rfl, hlt, as6, S6, acc ++ [v], ys ++ [d6], ?_, ?_, upd_same, nL6, ?_, by simp; omega, ?_⟩
      · have z := e25.trans e6
        exact ⟨z.pre, fun p o h n => by rw [upd_ne (ne_of_none h hL)]; exact z.keep p o h n, z.fresh⟩
      · exact hs6.off hL6 nL6
      · exact (Reps.imm (Imm.off hL6) _ _ r6').append ⟨v, [], rfl, Rep.imm (Imm.off hL6) _ _ r6, rfl⟩
      · have e0 : (fun zs S2 => Ql ((ys ++ [d6]) ++ zs) S2) = fun zs S2 => Ql (ys ++ d6 :: zs) S2 := by
          funext zs S2
          rw [List.append_assoc]
          rfl
        rw [e0]
        exact q6
  · have ei : i = ds.length := by omega
    subst ei
    rw [List.drop_length] at q2
    obtain ⟨kp, q2⟩ := q2
    rw [List.append_nil] at q2
    refine .inl ⟨it2.stop H' as' S' (.refl _ _) hs2 kp, ?_⟩
    have nH : H L = none := by
      cases z : H L with
      | none => rfl
      | some o =>
        have n0 : L ∉ as := fun m => nL (e1.sub L m)
        rw [e1.keep _ _ z n0] at hL; cases hL
    exact k L acc H' as' ys S' e12 (henv.mono hs e12) hs2 hL2 nL2 nH r2 (by rw [r2.length]; omega) q2
theorem s_comp {elt tg iter : Expr} {ifs : List Expr} {scope : Scope} {pos : Pos} {si : SI} {sg : SG} {st : ST} {se : SE} (c : CtxOk G C X W) (hcalm : C.calm = true) (hset : isSet iter = false) (hb : blkC C.N C.sc scope (ownOf C.N scope.names) = true) (hi : PI X tg iter (LI G W si))
    (hg : ∀ {X' : Cx}, CtxOk G (C.blk scope) X' (fun _ _ _ _ => False) → PG X' tg (LG G (C.blk scope) (fun _ _ _ _ => False) sg))
    (ht : ∀ {X' : Cx}, CtxOk G (C.blk scope) X' (fun _ _ _ _ => False) → PTs X' ifs (LT G (fun _ _ _ _ => False) st))
    (he : ∀ {X' : Cx}, CtxOk G (C.blk scope) X' (fun _ _ _ _ => False) → PE X' elt (LE G (fun _ _ _ _ => False) se)) :
    PE X (.ListComp elt [⟨tg, iter, ifs, 0⟩] scope pos) (LC G W (cComp si ((ownOf C.N scope.names).map Prod.snd) sg st se)) := by
  have ok : BlkOk X.N X.env.scope scope (ownOf C.N scope.names) := by
    rw [c.N, c.sc]
    exact blkOk_by hb
  have cb := fun s H A cl fp => ctx_blk c hcalm ok s H A cl fp
  exact PE.imp (pe_lc (own := ownOf C.N scope.names) (c.calm hcalm) (by rw [c.N]; exact c.nd) hi ok (fun s H A cl fp => hg (cb s H A cl fp)) (fun s H A cl fp => ht (cb s H A cl fp)) (fun s H A cl fp => he (cb s H A cl fp)) (by cases iter <;> first | (intro _; rfl) | cases hset)) fun σ H Q h => lc_imp h
end
end SD

-- SD12
set_option Elab.async false
set_option linter.all false
set_option maxRecDepth 100000
set_option maxHeartbeats 2000000
namespace SD
open PySem L2
section
variable {G : GC} {C : TC} {X : Cx} {W : WX} {H : Hp} {as : List Addr} {S : Store}
theorem RepS.adopt {L : Addr} {vs : List V} {ds : List D} (r : RepS G H as S) (h : H L = some (.lst vs)) (n : L ∉ as) (q : Reps G H as ds vs) : RepS G H (as ++ [L]) (S ++ [.lst ds]) := by
  have im : Imm H as H (as ++ [L]) := ⟨⟨[L], rfl⟩, fun _ _ k _ => k⟩
  refine ⟨by rw [List.length_append, List.length_append, r.len]; rfl, ?_, fun k a c h1 h2 => ?_⟩
  · rw [List.nodup_append]
    refine ⟨r.nd, by simp, fun a m b m' => ?_⟩
    rw [List.mem_singleton.mp m']
    exact fun z => n (z ▸ m)
  · by_cases hk : k < as.length
    · rw [List.getElem?_append_left hk] at h1
      rw [List.getElem?_append_left (by rw [← r.len]; exact hk)] at h2
      have q := r.cell k a c h1 h2
      cases c with
      | dct _ => exact q
      | lst ds =>
        obtain ⟨ws, q1, q2⟩ := q
        exact ⟨ws, q1, Reps.imm im ds ws q2⟩
    · have hk' : as.length ≤ k := Nat.le_of_not_lt hk
      rw [List.getElem?_append_right hk'] at h1
      rw [List.getElem?_append_right (by rw [← r.len]; exact hk')] at h2
      have e0 : k - as.length = 0 := by
        have := (List.getElem?_eq_some_iff.mp h1).1
        simp at this
        omega
      rw [e0] at h1
      rw [← r.len, e0] at h2
      simp at h1 h2
      subst h1 h2
      exact ⟨vs, h, Reps.imm im ds vs q⟩
theorem lc_val {t : Env → Store → QX → QL → Prop} {e : Expr} (h : PE X e (LC G W t)) : PE X e (LE G W fun env S E Q => t env S E fun ys S1 => Q (.lref S1.length) (S1 ++ [.lst ys])) := by
  refine PE.imp h fun σ H Q ⟨env, S, as, E, Qd, he, hs, hx, ht, k⟩ => ⟨env, S, as, E, _, he, hs, hx, ht, fun L vs H' as' ys S' e he' hs' hL nL nH r hl q => ?_⟩
  refine k (.ref L) H' (as' ++ [L]) (.lref S'.length) (S' ++ [.lst ys]) ⟨?_, e.keep, fun a m n => ?_⟩ (hs'.adopt hL nL r) (rep_last hs') q
  · obtain ⟨r, z⟩ := e.pre
    exact ⟨r ++ [L], by rw [z, List.append_assoc]⟩
  · rcases List.mem_append.mp m with m | m
    · exact e.fresh a m n
    · rw [List.mem_singleton.mp m]; exact nH
theorem lc_tup {t : Env → Store → QX → QL → Prop} {e : Expr} {fp pos : Pos} (c : CtxOk G C X W) (hg : glK (C.sc.names.lookup ("tuple" : Str)) = true) (hpe : plainE e = true) (h : PE X e (LC G W t)) :
    PE X (.Call (.Name "tuple" fp) [e] [] pos) (LE G W fun env S E Q => t env S E fun ys S1 => Q (.tup ys) S1) := by
  have sc := star_cons (es := []) hpe X.env
  refine PE.imp (pe_callTy call_tuple_of (gl_of c hg) (c.bi _ (by decide +kernel)) (by decide +kernel) (pa_cons h pa_nil sc) (by decide) (by decide) sc rfl) fun σ H Q ⟨env, S, as, E, Qd, he, hs, hx, ht, k⟩ => ?_
  refine ⟨env, S, as, E, _, he, hs, hx, ht, fun L vs H' as' ys S' e he' hs' hL nL nH r hl q => ?_⟩
  refine ⟨L, vs, rfl, .inl ⟨.inl (.inl hL), fun p hp => ?_⟩⟩
  exact k _ _ _ (.tup ys) S' (e.trans (Ext.tuple hs' hp)) (hs'.other hp) ⟨p, vs, rfl, .inl (.inl upd_same), Reps.mono hs' (Ext.tuple hs' hp) _ _ r⟩ q
theorem lc_any {t : Env → Store → QX → QL → Prop} {e : Expr} {fp pos : Pos} (c : CtxOk G C X W) (hcalm : C.calm = true) (hg : glK (C.sc.names.lookup ("any" : Str)) = true) (hpe : plainE e = true) (h : PE X e (LC G W t)) :
    PE X (.Call (.Name "any" fp) [e] [] pos) (LE G W fun env S E Q => t env S E fun ys S1 => anyD ys S1 Q) := by
  have sc := star_cons (es := []) hpe X.env
  refine PE.imp (pe_callB (b_any (G := G) (c.calm hcalm)) (gl_of c hg) (c.bi _ (by decide +kernel)) (by decide +kernel) (pa_cons h pa_nil sc) (by decide) (by decide) sc rfl) fun σ H Q ⟨env, S, as, E, Qd, he, hs, hx, ht, k⟩ => ?_
  refine ⟨env, S, as, E, _, he, hs, hx, ht, fun L vs H' as' ys S' e he' hs' hL nL nH r hl q => ?_⟩
  unfold anyD at q
  split at q
  · rename_i bs eb
    exact ⟨L, vs, as', ys, bs, rfl, hL, r, eb, k _ _ _ (.bl _) S' e hs' rfl q⟩
  · exact q.elim
theorem lc_all {t : Env → Store → QX → QL → Prop} {e : Expr} {fp pos : Pos} (c : CtxOk G C X W) (hcalm : C.calm = true) (hg : glK (C.sc.names.lookup ("all" : Str)) = true) (hpe : plainE e = true) (h : PE X e (LC G W t)) :
    PE X (.Call (.Name "all" fp) [e] [] pos) (LE G W fun env S E Q => t env S E fun ys S1 => allD ys S1 Q) := by
  have sc := star_cons (es := []) hpe X.env
  refine PE.imp (pe_callB (b_all (G := G) (c.calm hcalm)) (gl_of c hg) (c.bi _ (by decide +kernel)) (by decide +kernel) (pa_cons h pa_nil sc) (by decide) (by decide) sc rfl) fun σ H Q ⟨env, S, as, E, Qd, he, hs, hx, ht, k⟩ => ?_
  refine ⟨env, S, as, E, _, he, hs, hx, ht, fun L vs H' as' ys S' e he' hs' hL nL nH r hl q => ?_⟩
  unfold allD at q
  split at q
  · rename_i bs eb
    exact ⟨L, vs, as', ys, bs, rfl, hL, r, eb, k _ _ _ (.bl _) S' e hs' rfl q⟩
  · exact q.elim
/-! the translation is sound -/
theorem x_comp {p : Tr} (hp : Snd p) (c : CtxOk G C X W) {elt : Expr} {gens : List Comprehension} {scope : Scope} {pos : Pos} {ct : CompT} (h : trComp p C elt gens scope = some ct) : C.calm = true ∧ PE X (.ListComp elt gens scope pos) (LC G W (cComp ct.it ct.own ct.g ct.t ct.e)) := by
  unfold trComp at h
  split at h
  · rename_i tg iter ifs isA
    split at h
    · rename_i q
      simp only [Bool.and_eq_true, decide_eq_true_eq, Bool.not_eq_true'] at q
      obtain ⟨⟨⟨q1, q2⟩, q3⟩, q4⟩ := q
      subst q4
      obtain ⟨si, e1, h⟩ := Option.bind_eq_some_iff.mp h
      obtain ⟨sg, e2, h⟩ := Option.bind_eq_some_iff.mp h
      obtain ⟨st, e3, h⟩ := Option.bind_eq_some_iff.mp h
      obtain ⟨se, e4, rfl⟩ := Option.map_eq_some_iff.mp h
      refine ⟨q1, s_comp c q1 q3 q2 (hp.i c e1) (fun c' => hp.g c' e2) (fun c' => ?_) (fun c' => hp.e c' e4)⟩
      split at e3
      · cases e3
        refine ⟨fun pins s σ H Q I h => ?_⟩
        refine pts_nil.run pins s σ H Q I ?_
        obtain ⟨env, S, as, E, Qd, he, hs, hx, ht, k⟩ := h
        exact k true H as S (.refl _ _) hs ht
      · exact pts_one (hp.t c' e3)
      · cases e3
    · cases h
  · cases h
theorem plain_comp {elt : Expr} {gens : List Comprehension} {scope : Scope} {pos : Pos} : plainE (.ListComp elt gens scope pos) = true := rfl
theorem x_bi {p : Tr} (hp : Snd p) (c : CtxOk G C X W) {f : Str} {args : List Expr} {fp pos : Pos} {t : SE} (hcalm : C.calm = true) (hf : plainB f = true) (hg : glK (C.sc.names.lookup f) = true) (hb : isBi f = true) (h : trBI p C f args = some t) :
    PE X (.Call (.Name f fp) args [] pos) (LE G W t) := by
  unfold trBI at h
  split at h
  · obtain ⟨ct, h1, h2⟩ := Option.bind_eq_some_iff.mp h
    unfold trBC at h2
    split at h2
    · rename_i q; cases h2; have q := of_decide_eq_true q; subst q
      exact lc_tup c hg rfl (x_comp hp c h1).2
    · split at h2
      · rename_i q; cases h2; have q := of_decide_eq_true q; subst q
        exact lc_all c hcalm hg rfl (x_comp hp c h1).2
      · split at h2
        · rename_i q; cases h2; have q := of_decide_eq_true q; subst q
          exact lc_any c hcalm hg rfl (x_comp hp c h1).2
        · cases h2
  · obtain ⟨g, h1, h2⟩ := Option.bind_eq_some_iff.mp h
    split at h2
    · rename_i q
      obtain ⟨ta, h3, rfl⟩ := Option.map_eq_some_iff.mp h2
      exact s_bi1 c hf hg hb q (hp.e c h3) h1
    · cases h2
  · split at h
    · rename_i q
      simp only [Bool.and_eq_true, decide_eq_true_eq] at q
      obtain ⟨⟨⟨q1, q2⟩, q3⟩, q4⟩ := q
      subst q1
      obtain ⟨u, h1, h2⟩ := Option.bind_eq_some_iff.mp h
      obtain ⟨ta, h3, rfl⟩ := Option.map_eq_some_iff.mp h2
      exact s_isa c hg q2 (hp.e c h3) q3 q4 h1
    · cases h
  · cases h
theorem some_inj {α : Type} {a b : α} (h : some a = some b) : a = b := Option.some.inj h
theorem x_e {p : Tr} (hp : Snd p) (c : CtxOk G C X W) : ∀ {e : Expr} {t : SE}, stE p C e = some t → PE X e (LE G W t) := by
  intro e t h
  unfold stE at h
  split at h
  · exact s_const h
  · exact s_name c h
  · split at h
    · rename_i hl
      obtain ⟨ts, h1, rfl⟩ := Option.map_eq_some_iff.mp h
      exact s_tup hl (s_args hp c h1).2
    · cases h
  · split at h
    · rename_i hl
      obtain ⟨ts, h1, rfl⟩ := Option.map_eq_some_iff.mp h
      exact s_lst hl (s_args hp c h1).2
    · cases h
  · obtain ⟨f, h1, h⟩ := Option.bind_eq_some_iff.mp h
    obtain ⟨ta, h2, h⟩ := Option.bind_eq_some_iff.mp h
    obtain ⟨tb, h3, rfl⟩ := Option.map_eq_some_iff.mp h
    exact s_bin c h1 (hp.e c h2) (hp.e c h3)
  · obtain ⟨ta, h2, rfl⟩ := Option.map_eq_some_iff.mp h
    exact s_neg (hp.e c h2)
  · obtain ⟨ta, h2, rfl⟩ := Option.map_eq_some_iff.mp h
    exact s_not c (hp.e c h2)
  · exact s_and c (hp.e c) h
  · exact s_or c (hp.e c) h
  · obtain ⟨f, h1, h⟩ := Option.bind_eq_some_iff.mp h
    obtain ⟨ta, h2, h⟩ := Option.bind_eq_some_iff.mp h
    obtain ⟨tb, h3, rfl⟩ := Option.map_eq_some_iff.mp h
    exact s_if (hp.t c h1) (hp.e c h2) (hp.e c h3)
  · split at h
    · cases h
    · rename_i hs
      obtain ⟨o, h1, h⟩ := Option.bind_eq_some_iff.mp h
      obtain ⟨ta, h2, h⟩ := Option.bind_eq_some_iff.mp h
      obtain ⟨tb, h3, rfl⟩ := Option.map_eq_some_iff.mp h
      exact s_cmp c (by simpa using hs) h1 (hp.e c h2) (hp.e c h3)
  · split at h
    · cases h
    · rename_i hs
      obtain ⟨o, h1, h⟩ := Option.bind_eq_some_iff.mp h
      obtain ⟨o', h1', h⟩ := Option.bind_eq_some_iff.mp h
      obtain ⟨ta, h2, h⟩ := Option.bind_eq_some_iff.mp h
      obtain ⟨tb, h3, h⟩ := Option.bind_eq_some_iff.mp h
      obtain ⟨tc, h4, rfl⟩ := Option.map_eq_some_iff.mp h
      exact s_chain c h1 h1' (hp.e c h2) (hp.e c h3) (hp.e c h4) (by simpa using hs)
  · obtain ⟨ta, h1, h⟩ := Option.bind_eq_some_iff.mp h
    obtain ⟨tl, h2, h⟩ := Option.bind_eq_some_iff.mp h
    obtain ⟨th, h3, rfl⟩ := Option.map_eq_some_iff.mp h
    refine s_slice c (hp.e c h1) ?_ ?_
    · split at h2
      · cases h2; exact s_part0
      · obtain ⟨u, h4, rfl⟩ := Option.map_eq_some_iff.mp h2
        exact s_part1 (hp.e c h4)
    · split at h3
      · cases h3; exact s_part0
      · obtain ⟨u, h4, rfl⟩ := Option.map_eq_some_iff.mp h3
        exact s_part1 (hp.e c h4)
  · split at h
    · cases h
    · rename_i hs
      obtain ⟨ta, h2, h⟩ := Option.bind_eq_some_iff.mp h
      obtain ⟨tb, h3, rfl⟩ := Option.map_eq_some_iff.mp h
      exact s_ix c (by simpa using hs) (hp.e c h2) (hp.e c h3)
  · obtain ⟨ct, h1, rfl⟩ := Option.map_eq_some_iff.mp h
    exact lc_val (x_comp hp c h1).2
  · split at h
    · rename_i q
      rw [Bool.and_eq_true] at q
      split at h
      · rename_i hv
        split at h
        · cases h
        · obtain ⟨i, h1, h⟩ := Option.bind_eq_some_iff.mp h
          obtain ⟨ts, h2, rfl⟩ := Option.map_eq_some_iff.mp h
          have a := s_args hp c h2
          refine s_callV c q.1 (s_var c q.2 hv h1) a.1 ?_ a.2 rfl
          unfold trArgs at h2
          rw [if_pos a.1] at h2
          exact trL_length h2
      · split at h
        · rename_i hg
          split at h
          · rename_i hb
            exact x_bi hp c q.1 q.2 hg hb h
          · obtain ⟨ts, h2, rfl⟩ := Option.map_eq_some_iff.mp h
            have a := s_args hp c h2
            refine s_call c q.1 q.2 hg a.1 ?_ a.2
            unfold trArgs at h2
            rw [if_pos a.1] at h2
            exact trL_length h2
        · cases h
    · cases h
  · split at h
    · split at h
      · rename_i q
        simp only [Bool.and_eq_true, decide_eq_true_eq, Bool.not_eq_true'] at q
        obtain ⟨⟨⟨q1, q2⟩, q3⟩, q4⟩ := q
        subst q1
        obtain ⟨ta, h2, h⟩ := Option.bind_eq_some_iff.mp h
        obtain ⟨tb, h3, rfl⟩ := Option.map_eq_some_iff.mp h
        exact s_append q3 q2 q4 (hp.e c h2) (hp.e c h3)
      · cases h
    · cases h
  · split at h
    · cases h
    · rename_i q
      simp only [Bool.or_eq_true, not_or, Bool.not_eq_true, Bool.not_eq_true', Bool.not_eq_false'] at q
      split at h
      · cases h
      · obtain ⟨ta, h2, h⟩ := Option.bind_eq_some_iff.mp h
        obtain ⟨tb, h3, h⟩ := Option.bind_eq_some_iff.mp h
        obtain ⟨ts, h4, rfl⟩ := Option.map_eq_some_iff.mp h
        have a := s_args hp c h4
        refine s_callV c (by simpa using q.2) (s_ix c q.1 (hp.e c h2) (hp.e c h3)) a.1 ?_ a.2 rfl
        unfold trArgs at h4
        rw [if_pos a.1] at h4
        exact trL_length h4
  · cases h
end
end SD

-- SD13
set_option Elab.async false
set_option linter.all false
set_option maxRecDepth 100000
set_option maxHeartbeats 2000000
namespace SD
open PySem L2
section
variable {G : GC} {C : TC} {X : Cx} {W : WX} {H : Hp} {as : List Addr} {S : Store}
theorem isTrue_val {e : Expr} (h : asValue e = true) (env : PySem.Env) : ∀ whole, isTrue e env whole = (do let v ← whole; standAt e.pos; holding [v] (truthy v)) := by
  cases e with
  | UnaryOp op a pos => cases op <;> first | (intro _; rfl) | cases h
  | BoolOp _ _ _ => cases h
  | IfExp _ _ _ _ => cases h
  | Compare _ _ _ _ => cases h
  | _ => intro _; rfl
theorem x_t {p : Tr} (hp : Snd p) (c : CtxOk G C X W) : ∀ {e : Expr} {t : ST}, stT p C e = some t → PT X e (LT G W t) := by
  intro e t h
  unfold stT at h
  split at h
  · exact (t_and (hp.t c) h).pt
  · exact (t_or (hp.t c) h).pt
  · obtain ⟨ta, h1, rfl⟩ := Option.map_eq_some_iff.mp h
    exact t_not (hp.t c h1)
  · obtain ⟨te, h0, rfl⟩ := Option.map_eq_some_iff.mp h
    rename_i a ops bs pos
    unfold stE at h0
    split at h0 <;> first | (rename_i z; cases z; done) | skip
    all_goals (try (rename_i z _; cases z; done))
    all_goals (try (rename_i z _ _; cases z; done))
    · rename_i a' op b pos' z
      cases z
      split at h0
      · cases h0
      · rename_i hs
        obtain ⟨o, h1, h0⟩ := Option.bind_eq_some_iff.mp h0
        obtain ⟨ta, h2, h0⟩ := Option.bind_eq_some_iff.mp h0
        obtain ⟨tb, h3, rfl⟩ := Option.map_eq_some_iff.mp h0
        exact t_cmp c (by simpa using hs) h1 (hp.e c h2) (hp.e c h3)
    · rename_i a' op op' b d pos' z
      cases z
      split at h0
      · cases h0
      · rename_i hs
        obtain ⟨o, h1, h0⟩ := Option.bind_eq_some_iff.mp h0
        obtain ⟨o', h1', h0⟩ := Option.bind_eq_some_iff.mp h0
        obtain ⟨ta, h2, h0⟩ := Option.bind_eq_some_iff.mp h0
        obtain ⟨tb, h3, h0⟩ := Option.bind_eq_some_iff.mp h0
        obtain ⟨tc, h4, rfl⟩ := Option.map_eq_some_iff.mp h0
        exact t_chain c h1 h1' (hp.e c h2) (hp.e c h3) (hp.e c h4) (by simpa using hs)
    · cases h0
  · split at h
    · rename_i hv
      obtain ⟨te, h0, rfl⟩ := Option.map_eq_some_iff.mp h
      exact t_val c (x_e hp c h0) (isTrue_val hv _)
    · cases h
theorem x_i {p : Tr} (hp : Snd p) (c : CtxOk G C X W) {tg : Expr} : ∀ {e : Expr} {t : SI}, stI p C tg e = some t → PI X tg e (LI G W t) := by
  intro e t h
  unfold stI at h
  split at h
  · split at h
    · rename_i q
      simp only [Bool.and_eq_true] at q
      obtain ⟨⟨⟨q1, q2⟩, q3⟩, q4⟩ := q
      split at h
      · rename_i z; have z := of_decide_eq_true z; subst z
        split at h
        · split at h
          · rename_i hpe
            obtain ⟨ta, h1, rfl⟩ := Option.map_eq_some_iff.mp h
            exact i_range1 c q3 hpe (hp.e c h1)
          · cases h
        · split at h
          · rename_i hpe
            rw [Bool.and_eq_true] at hpe
            obtain ⟨ta, h1, h⟩ := Option.bind_eq_some_iff.mp h
            obtain ⟨tb, h2, rfl⟩ := Option.map_eq_some_iff.mp h
            exact i_range2 c q3 hpe.1 hpe.2 (hp.e c h1) (hp.e c h2)
          · cases h
        · cases h
      · split at h
        · rename_i z; have z := of_decide_eq_true z; subst z
          split at h
          · split at h
            · rename_i hpe
              simp only [Bool.and_eq_true] at hpe
              obtain ⟨ta, h1, h⟩ := Option.bind_eq_some_iff.mp h
              obtain ⟨tb, h2, rfl⟩ := Option.map_eq_some_iff.mp h
              exact i_zip c hpe.2 q3 hpe.1.1 hpe.1.2 (hp.e c h1) (hp.e c h2)
            · cases h
          · cases h
        · cases h
    · obtain ⟨ta, h1, rfl⟩ := Option.map_eq_some_iff.mp h
      exact i_seq c (x_e hp c h1)
  · obtain ⟨ta, h1, rfl⟩ := Option.map_eq_some_iff.mp h
    exact i_seq c (x_e hp c h1)
theorem x_g {p : Tr} (hp : Snd p) (c : CtxOk G C X W) : ∀ {e : Expr} {t : SG}, stG p C e = some t → PG X e (LG G C W t) := by
  intro e t h
  unfold stG at h
  split at h
  · split at h
    · rename_i ht
      obtain ⟨i, h1, rfl⟩ := Option.map_eq_some_iff.mp h
      exact g_var c ht h1
    · cases h
  · split at h
    · rename_i q
      rw [Bool.and_eq_true] at q
      obtain ⟨gs, h1, rfl⟩ := Option.map_eq_some_iff.mp h
      exact g_tup c q.1 q.2 (trL_length h1) (g_seq (hp.g c) q.2 h1)
    · cases h
  · split at h
    · cases h
    · rename_i hs
      obtain ⟨ta, h1, h⟩ := Option.bind_eq_some_iff.mp h
      obtain ⟨tb, h2, rfl⟩ := Option.map_eq_some_iff.mp h
      exact g_ix (by simpa using hs) (hp.e c h1) (hp.e c h2)
  · cases h
end
theorem snd_tr : ∀ n, Snd (tr n)
  | 0 => ⟨fun _ _ _ h => (nomatch h), fun _ _ _ h => (nomatch h), fun _ _ _ _ h => (nomatch h), fun _ _ _ h => (nomatch h)⟩
  | n + 1 => ⟨fun c _ _ h => x_e (snd_tr n) c h, fun c _ _ h => x_t (snd_tr n) c h, fun c _ _ _ h => x_i (snd_tr n) c h, fun c _ _ h => x_g (snd_tr n) c h⟩
end SD

-- SD14
set_option Elab.async false
set_option linter.all false
set_option maxRecDepth 100000
set_option maxHeartbeats 2000000
namespace SD
open PySem L2
/-! ### try .. except A as n: .. except B as m: .. -/
abbrev Suite := Addr → Value → Option Addr → TS
/-- behind a suite its name is gone -/
def Ends.gone (i : Nat) (D : Ends) : Ends := ⟨fun σ H => D.nx (σ.set i none) H, D.rt, fun σ H => D.bk (σ.set i none) H, fun σ H => D.ct (σ.set i none) H⟩
def wHd (K : PySem.W.Frag) (Wout : WX) (D : Ends) : List (Value × Nat × Suite) → WX
  | [] => Wout
  | (c, i, ts) :: r => fun cls d σ H => ∃ b, PySem.W.exmOne K cls c = some b ∧ (b = true → ∀ a, H a = none → ts a cls d (Ends.gone i D) (σ.set i (some (.ref a))) H) ∧ (b = false → wHd K Wout D r cls d σ H)
inductive HdOk (X : Cx) : List ExceptHandler → List (Value × Nat × Suite) → Prop
  | nil : HdOk X [] []
  | cons {x n : Str} {c : Value} {i : Nat} {ts : Suite} {b₀ : Stmt} {suite : List Stmt} {np pos' : Pos} {hds : List ExceptHandler} {l : List (Value × Nat × Suite)} (hc : Names X x c) (hi : X.N[i]? = some n) (hln : X.env.kindOf n = some .local)
      (hsu : ∀ (a : Addr) (oe : Obj) (cls : Value) (d : Option Addr) (pn : List (Addr × Obj)), Zc cls d oe → (∃ vs, oe.data = .fields vs) → PSs (X.suite a ((a, oe) :: pn)) (b₀ :: suite) (ts a cls d)) (r : HdOk X hds l) :
      HdOk X (.ExceptHandler (some (.Name x np)) (some n) (b₀ :: suite) pos' :: hds) ((c, i, ts) :: l)
section
variable {X : Cx} {D : Ends} {Wout : WX}
/-- a suite with its name bound, and the name taken away behind it -/
theorem suite_run {pins : List (Addr × Obj)} {a : Addr} {oe : Obj} {cls : Value} {d : Option Addr} {σ : St} {H : Hp} {s : Shared} {i : Nat} {n : Str} {ts : Suite} {b₀ : Stmt} {rest : List Stmt} {pos' : Pos} (ok : X.Ok) (hN : X.N.Nodup) (hi : X.N[i]? = some n) (hln : X.env.kindOf n = some .local)
    (S : L2.Inv (X.suite a ((a, oe) :: (X.pn ++ pins))) [] σ H s) (hb : PSs (X.suite a ((a, oe) :: (X.pn ++ pins))) (b₀ :: rest) (ts a cls d)) (h : ts a cls d (Ends.gone i D) (σ.set i (some (.ref a))) H) :
    wpAny (model X.prog X.w) (X.A.mark (some (.ref a))) (storeName X.env n (.ref a)) (fun _ s5 => wpAny (model X.prog X.w) (X.A.mark (some (.ref a))) (execs (b₀ :: rest) X.env)
      (fun f s6 => wpAny (model X.prog X.w) X.A (do bindName X.env n .none; unbindBehindTheSuite X.env n pos') (fun _ s7 => SP X pins D f s7) X.xe s6) (fun _ _ => False) s5) (fun _ _ => False) s := by
  refine store_ok (X := X.suite a ((a, oe) :: (X.pn ++ pins))) (v := .ref a) S hN hi (.inl hln) rfl (fun s5 S5 => ?_) (.inr hln)
  refine thn (hb.run [] s5 _ H _ S5 h) fun f s6 q => ?_
  have fin : ∀ {τ : St} {H6 : Hp} {Q : Shared → Prop}, L2.Inv (X.suite a ((a, oe) :: (X.pn ++ pins))) [] τ H6 s6 → (∀ s7, L2.Inv X pins (τ.set i none) H6 s7 → Q s7) →
      wpAny (model X.prog X.w) X.A (do bindName X.env n .none; unbindBehindTheSuite X.env n pos') (fun _ s7 => Q s7) X.xe s6 := fun S6 k => gone_ok (S6.unsuite ok) hN hi hln k
  cases f with
  | ret u => obtain ⟨v, τ, H6, S6, r, q⟩ := q; exact fin S6 fun s7 J => ⟨v, _, _, J, r, q⟩
  | next => obtain ⟨τ, H6, S6, q⟩ := q; exact fin S6 fun s7 J => ⟨_, _, J, q⟩
  | brk => obtain ⟨τ, H6, S6, q⟩ := q; exact fin S6 fun s7 J => ⟨_, _, J, q⟩
  | cont => obtain ⟨τ, H6, S6, q⟩ := q; exact fin S6 fun s7 J => ⟨_, _, J, q⟩
theorem ps_try_hd {body : List Stmt} {h₀ : ExceptHandler} {hds : List ExceptHandler} {l : List (Value × Nat × Suite)} {pos : Pos} {tb : WX → TS} (hs : X.stack = X.env :: X.outer) (hf : X.env.frame = some X.env.locals) (hN : X.N.Nodup) (tk : Takes X Wout)
    (hb : ∀ (W : WX) (pn : List (Addr × Obj)) (xe : Value → Shared → Prop), Takes (X.tr pn xe) W → PassesOwn (model X.prog X.w) X.A X.env xe → PSs (X.tr pn xe) body (tb W)) (hh : HdOk X (h₀ :: hds) l) :
    PS X (.Try body (h₀ :: hds) [] [] pos) (fun D σ H => tb (wHd X.K Wout D l) D σ H) := by
  refine ⟨fun pins s σ H D I h => wpAny_Try_except ?_⟩
  have ok := I.ok
  have hfr : X.A.frames = some (X.env :: X.outer) := ok.frames.trans (congrArg some hs)
  let xe : Value → Shared → Prop := fun e s₁ => wpAny (model X.prog X.w) X.A (noteFrame e X.env) (fun _ s₂ => wpAny (model X.prog X.w) X.A (setFlight e none) (fun _ s₃ => wpAny (model X.prog X.w) X.A (handleBy e X.env (h₀ :: hds)) (SP X pins D) X.xe s₃) X.xe s₂) X.xe s₁
  have caught : Takes (X.tr (X.pn ++ pins) xe) (wHd X.K Wout D l) := by
    rintro u s' ⟨a, B, sI, pins', σ', H', cls, d, rfl, J', nb, up, sky, na, os, ag, w⟩
    have J : L2.Inv X pins σ' H' sI := J'.ofTry ok
    show wpAny (model X.prog X.w) X.A (noteFrame (.ref a) X.env) _ _ _
    refine Sky.land Zc.steady hfr hf (hs ▸ sky : Sky B (X.env :: X.outer) a (Zc cls d) X.env.locals s'.heap) fun h3 fl3 up3 => ?_
    have J3 : L2.Inv X pins σ' H' { s' with heap := h3 } := J.landed nb fl3.1 (up.trans up3) os ag
    obtain ⟨oe3, vs3, he3, hz3, hd3⟩ := fl3.there
    have off : a ∉ frs (X.env :: X.outer) := fun hm => by
      obtain ⟨_, o', e', hnf⟩ := fl3.2.2.1.mem hm
      rw [he3] at e'; cases e'
      exact hnf _ hd3
    have nL : a ≠ X.env.locals := fun z => off (List.mem_filterMap.mpr ⟨X.env, List.mem_cons_self, by rw [hf, z]⟩)
    have nF : a ∉ X.fs := fun hm => by
      obtain ⟨e, he, q⟩ := List.mem_filterMap.mp hm
      exact off (List.mem_filterMap.mpr ⟨e, List.mem_cons_of_mem _ he, q⟩)
    have S3 := J3.suite he3 hd3 na nL nF
    have go : ∀ {hs' : List ExceptHandler} {l' : List (Value × Nat × Suite)}, HdOk X hs' l' → wHd X.K Wout D l' cls d σ' H' → wpAny (model X.prog X.w) X.A (handleBy (.ref a) X.env hs') (SP X pins D) X.xe { s' with heap := h3 } := by
      intro hs' l' k
      induction k with
      | nil =>
        intro w
        refine wpAny_handleBy_nil ?_
        obtain ⟨k1, k2, k3, oe, vs, T, oT, ts', he, hz, hd, h1, hr⟩ := id fl3
        unfold PySem.passOn
        refine wpAny_bind (wpAny_field he hd h1 ?_)
        rw [if_neg (show ¬ ((Value.ref T == Value.none) = true) from by simp)]
        have out : wpAny (model X.prog X.w) X.A (setFlight (.ref a) X.env.frame) (fun _ s4 => wpAny (model X.prog X.w) X.A (throw (.ref a) : Sem Flow) (SP X pins D) X.xe s4) X.xe { s' with heap := h3 } := by
          rw [hf]
          exact HandSPX.setFlight_upZ fl3 fun h4 hh4 up4 => wpAny_throw (tk _ _ ⟨a, B, sI, pins, σ', H', cls, d, rfl, J, nb, (up.trans up3).trans up4, .inr (.inr (by rw [hs]; exact hh4)), na, os, ag, w⟩)
        first
          | exact wpAny_bind (wpAny_pure (wpAny_bind out))
          | exact wpAny_bind out
      | @cons x n c i ts b₀ rest np pos' hs2 l2 hc hi hln hsu r ih =>
        rintro ⟨b, hb1, hyes, hno⟩
        refine wpAny_handleBy_cons (codeAny_handlers_test ?_) (by intro q; cases q)
        have LM := PySem.W.exm_one (M := model X.prog X.w) J3.kIn (fun A Q E s k q => wpAny_typeOf_ref (k _ _ he3) (by rw [hz3.1]; exact q)) hb1
        have named : ∀ {Q : Value → Shared → Prop} {E : Value → Shared → Prop}, Q c { s' with heap := h3 } → wpAny (model X.prog X.w) (X.A.mark (some (.ref a))) (eval (.Name x np) X.env) Q E { s' with heap := h3 } := fun {Q E} q => by
          obtain ⟨hg, hdb, hm | ⟨hm, hv, hnn⟩⟩ := hc
          · exact ld_glob (X := X.suite a ((a, oe3) :: (X.pn ++ pins))) S3 hg hm q hdb
          · exact ld_blt (X := X.suite a ((a, oe3) :: (X.pn ++ pins))) S3 hg hm hv q hnn hdb
        refine named (LM.here ?_)
        cases b with
        | false => exact ih (hno rfl)
        | true =>
          refine codeAny_handlers_suite_as (HandSPX.lands_againZ fl3 fun h4 fl4 up4 => ?_)
          have J4 : L2.Inv X pins σ' H' { s' with heap := h4 } := J.landed nb fl4.1 ((up.trans up3).trans up4) os ag
          obtain ⟨oe4, vs4, he4, hz4, hd4⟩ := fl4.there
          exact wpAny_mono (suite_run (pos' := pos') ok hN hi hln (J4.suite he4 hd4 na nL nF) (hsu a oe4 cls d (X.pn ++ pins) hz4 ⟨_, hd4⟩) (hyes rfl a na)) (fun _ s5 q => wpAny_mono q (fun f s6 z => z) fun _ _ z => z.elim) fun _ _ z => z.elim
    exact go hh w
  refine wpAny_mono ((hb _ (X.pn ++ pins) xe caught PassesOwn.looking).run [] s σ H D (I.toTry _) h) (fun f s1 q => ?_) fun e s1 he => he
  cases f with
  | ret u => obtain ⟨v, τ, H6, J, r, q⟩ := q; exact ⟨v, τ, H6, J.ofTry ok, r, q⟩
  | next => obtain ⟨τ, H6, J, q⟩ := q; exact wpAny_execs_nil ⟨τ, H6, J.ofTry ok, q⟩
  | brk => obtain ⟨τ, H6, J, q⟩ := q; exact ⟨τ, H6, J.ofTry ok, q⟩
  | cont => obtain ⟨τ, H6, J, q⟩ := q; exact ⟨τ, H6, J.ofTry ok, q⟩
end
end SD

-- SD15
set_option Elab.async false
set_option linter.all false
set_option maxRecDepth 100000
set_option maxHeartbeats 4000000
namespace SD
open PySem PySem.W
/-! ### own errors whose __init__ says super().__init__(v) and self.f = v -/
def errBody (f : Str) (p0 p1 p2 p3 p4 p5 p6 p7 p8 p9 : Pos) : List Stmt :=
  [.Expr (.Call (.Attribute (.Call (.Name "super" p0) [] [] p1) "__init__" p2) [.Name f p3] [] p4) p5, .Assign [.Attribute (.Name "self" p6) f p7] (.Name f p8) p9]
structure ErrFn (prog : Program) (K : Frag) (C fI : Addr) (f : Str) (q : Str) (params : Arguments) (scope : Scope) (cda cc D : Addr) : Prop where
  fn : ∃ (oc : Value) (od : Option Addr) (doc pm : Value) (an : Option Addr) (dV kV ct : Value) (osl : Array (Option Value)) (p0 p1 p2 p3 p4 p5 p6 p7 p8 p9 : Pos), (p2.endLine == p4.line) = true ∧ K.lookup fI = some ⟨oc, od, .func (ksFn "__init__" q params (errBody f p0 p1 p2 p3 p4 p5 p6 p7 p8 p9) scope dV kV doc pm an (.ref cda) ct cc), osl⟩ ∧
    ∀ (u v : Value), bindArgs (ksFn "__init__" q params (errBody f p0 p1 p2 p3 p4 p5 p6 p7 p8 p9) scope dV kV doc pm an (.ref cda) ct cc) ⟨[u, v], []⟩ = pure [(("self" : Str), u), (f, v)]
  code : codeIn K (.ref cda) q = true
  file : ∃ (ccl : Value) (cdd : Option Addr) (vs : Array Value) (ccs : Array (Option Value)) (fl : Str) (tf : Tok), K.lookup cda = some ⟨ccl, cdd, .fields vs, ccs⟩ ∧ vs[2]? = some (.str fl tf) ∧ ((prog.main.file : Str) == fl) = true
  cell : ∃ (cl : Value) (cld : Option Addr) (csl : Array (Option Value)), K.lookup cc = some ⟨cl, cld, .cell (some (.ref D)), csl⟩
  clsD : ∃ cd, clsIn K D = some cd
  mro : mroIn K C (.ref D) = some true
  sup : ks_superIn K C D "__init__" = some (some (.builtin "ValueError.__init__"))
  par : ∃ ar, (params.posonlyargs ++ params.args).head? = some ar ∧ ar.arg = "self"
  sSelf : scope.names.lookup ("self" : Str) = some .local
  sF : scope.names.lookup f = some .local
  sSuper : scope.names.lookup ("super" : Str) = some .globalImplicit
  sClass : scope.names.lookup ("__class__" : Str) = some .free
  nocell : ∀ x ∈ scope.names, x.2 ≠ .cell
  co : scope.isCoroutine = false
  gen : scope.isGenerator = false
  kind : scope.kind = .function
  fne : (("self" : Str) == f) = false
  fdb : (f == ("__debug__" : Str)) = false
structure ErrTxt (prog : Program) (K : Frag) (C fI : Addr) (f : Str) : Prop where
  oex : L2.OexC K C
  iC : findIn K (.ref C) "__init__" = some (some (.ref fI))
  tI : typeIn K (.ref fI) = some (.type "function")
  noN : findIn K (.ref C) f = some none
  subV : subIn K (.ref C) (.type "ValueError") = some true
  opq : nsIn K cStatics "thirdparty.any" = some none
  top : (prog.main.scope.names.lookup ("super" : Str)).isSome = false
  fn : ∃ q params scope cda cc D, ErrFn prog K C fI f q params scope cda cc D
/-- what is left of a fresh exception at x -/
structure ErrEnd (h h' : Heap) (x C dx : Addr) (f : Str) (v : Value) : Prop where
  keep : ∀ b o, b ≠ x → h.get? b = some o → h'.get? b = some o
  obj : ∃ t1, h'.get? x = some { cls := .ref C, dict := some dx, data := .fields #[.ref t1, .none, .none, .none, .bool false, .none] }
  dbig : h.objs.size ≤ dx
  dne : dx ≠ x
  ns : h'.Ns1 dx (fun y => if y = f then some v else none)
theorem call_at {M : Model} {A : Around} {c : Code} {E : Value → Shared → Prop} {s : Shared} {env : PySem.Env} {o : Expr} {name : Str} {apos pos : Pos} {x : Str} {xp : Pos} {Q : Value → Shared → Prop} (hl : (apos.endLine == pos.line) = true)
    (h : wpAt M A c (attributeBase o name env (eval o env)) (fun ov s₁ => wpAny M A (getMethod ov name (do return (← importBound o env).getD true)) (fun fx s₂ => wpAny M A (callWith pos fx.1 fx.2 (backTo pos (starEach [.Name x xp] env)) []) Q E s₂) E s₁) E s) :
    wpAt M A c (eval (.Call (.Attribute o name apos) [.Name x xp] [] pos) env) Q E s := by
  show wpAt M A c (do
    let ov ← attributeBase o name env (eval o env)
    standAt apos.atName
    methodCall o name apos pos env ov 1 (backTo pos (starEach [.Name x xp] env)) []) Q E s
  refine wpAt_bind (wpAt_mono h (fun ov s₁ h₁ => wpAt_of_wpAny (wpAny_bind (wpAny_standAt ?_))) fun _ _ x => x)
  unfold methodCall
  refine wpAny_bind (wpAny_holding ?_)
  show wpAny M A (getMethod ov name (do return (← importBound o env).getD true)) _ _ _
  refine wpAny_mono h₁ (fun fx s₂ h₂ => ?_) fun _ _ x => x
  refine wpAny_bind ?_
  unfold methodCallPos
  rw [if_pos (by rw [hl]; rfl)]
  exact wpAny_pure h₂
/-- a made error -/
structure ErrMade (h h' : Heap) (e C d : Addr) (f : Str) (v : Value) : Prop where
  keep : ∀ b o, h.get? b = some o → h'.get? b = some o
  new : h.objs.size ≤ e
  obj : ∃ oe vs, h'.get? e = some oe ∧ oe.cls = .ref C ∧ oe.dict = some d ∧ oe.data = .fields vs ∧ vs[1]? = some .none
  dbig : h.objs.size ≤ d
  dne : d ≠ e
  ns : h'.Ns1 d (fun y => if y = f then some v else none)
section
variable {prog : Program} {w : World} {A : Around} {E : Value → Shared → Prop} {R : Result → Shared → Prop} {s : Shared} {K : Frag} {C fI : Addr} {f : Str} {mg mb : Str → Option Value}
/-- the wrapper of ValueError.__init__, called -/
theorem call_wrap {h : Heap} {g : Array GenState} {d : Drawn} {t : Nat} {os : OsState} {u x t0 : Addr} {nm q : Str} {N : Addr} {bs bm : List Value} {hdct : Bool} {sn : List Str} {sub : List Value} {ab : Bool} {col : Option Bool} {dd : Option Addr} {k0 k1 k2 k3 k5 : Option Value} {rest : List Value} {Q : Value → Shared → Prop}
    (hC : h.get? C = some (excClassObj nm q C N bs bm hdct sn sub ab col dd k0 k1 k2 k3 k5 "ValueError.__new__")) (hx : h.get? x = some (excObj C t0 none .none)) (hu : h.get? u = some (kxs_mw "ValueError.__init__" x)) (hz : rest.length ≤ sizeLine)
    (hq : ∀ h', (∀ b o, b ≠ x → h.get? b = some o → h'.get? b = some o) → h'.get? x = some (excObj C h.objs.size none .none) → Q .none ⟨h', g, d, t, os⟩) : wpAny (model prog w) A (call (.ref u) rest) Q E ⟨h, g, d, t, os⟩ := by
  refine wpAny_call (codeAny_of_tree ?_)
  show wpAny _ A.in1 (callAny (.ref u) ⟨rest, []⟩) _ _ _
  simp only [callAny]
  refine wpAny_bind (wpAny_load hu ?_)
  simp only [kxs_mw, show (Value.type "method-wrapper" == Value.type "method" || Value.type "method-wrapper" == Value.type "builtin_function_or_method" || Value.type "method-wrapper" == Value.type "method-wrapper") = true by decide, if_true]
  refine KFB.if_so (by decide) ?_
  refine wpAny_bind (check_bound_init F.excBase_ValueError.toExcCallFacts hC hx rfl ?_)
  refine wpAny_bind (wpAny_pure (wpAny_pure ⟨plainId_quiet F.excBase_ValueError.init.plain _, codeAny_builtin F.excBase_ValueError.initEntry ?_⟩))
  exact exc_init_tree (cls := .ref C) (t0 := t0) (dv := none) (c2 := .none) (c3 := .none) (b4 := .bool false) hx hz fun h' k e _ => hq h' k e
theorem err_init (T : ErrTxt prog K C fI f) {x t0 : Addr} {v : Value} (X : K.In s.heap) (hlim : s.heap.NoLimit) (hg : s.heap.Ns mainGlobals mg) (hgs : mg "super" = none) (hb : s.heap.Ns builtinsNs mb) (hbs : mb "super" = bootBuiltins "super")
    (hx : s.heap.get? x = some (HandSPX.excO C t0)) (hnx : K.lookup x = none) (hroom : A.depth < recursionLimit)
    (hq : ∀ h' tk dx, ErrEnd s.heap h' x C dx f v → R (.ok (.ret .none)) { s with heap := h', toks := tk }) : codeAny (model prog w) A (.call (.ref fI) ⟨[.ref x, v], []⟩) R s := by
  obtain ⟨q, params, scope, cda, cc, D, F1⟩ := T.fn
  obtain ⟨oc, od, doc, pm, an, dV, kV, ct, osl, p0, p1, p2, p3, p4, p5, p6, p7, p8, p9, hpl, ho, hbind⟩ := F1.fn
  obtain ⟨ccl, cdd, vs, ccs, fl, tf, hcode, hvs, hfile⟩ := F1.file
  obtain ⟨cl, cld, csl, hcell⟩ := F1.cell
  obtain ⟨cdD, hD⟩ := F1.clsD
  obtain ⟨ar, har, harn⟩ := F1.par
  obtain ⟨nm, qn, N, bs, bm, sn, sub, ab, col, dd, k0, k1, k2, k3, k5, hC, hbm⟩ := T.oex.cls
  have hcl : clsIn K C = some { name := nm, bases := bs, mro := .ref C :: bm, ns := N, qualname := qn, hasDict := true, slotNames := sn, subclasses := sub, abstract := ab, collection := col, hasDel := false } := by unfold clsIn; rw [hC] <;> rfl
  refine ks_codeAny_call_defAt (binds := [(("self" : Str), .ref x), (f, v)]) hroom (X _ _ ho) rfl hlim (codeRec_of X F1.code) rfl (BindsTo.of_eq (hbind _ _)) F1.nocell (fun y hy => ?_) (fun h₀ hns k => ?_) F1.co F1.gen F1.kind
  · rcases List.mem_cons.mp hy with rfl | hy
    · exact F1.sSelf
    · rw [List.mem_singleton.mp hy]; exact F1.sF
  obtain ⟨hh, g, d, t, os⟩ := s
  have mSelf : (fun z : Str => ([(("self" : Str), Value.ref x), (f, v)] : List (Str × Value)).reverse.lookup z) "self" = some (.ref x) := by
    have e := F1.fne
    simp [List.lookup, e]
  have mF : (fun z : Str => ([(("self" : Str), Value.ref x), (f, v)] : List (Str × Value)).reverse.lookup z) f = some v := by simp [List.lookup]
  have X₀ : K.In h₀ := X.keeps k
  have hx₀ := k _ _ hx
  obtain ⟨oD, hD1, hD2⟩ : ∃ oD, h₀.get? D = some oD ∧ oD.data = .cls cdD := by
    unfold clsIn at hD
    split at hD
    · rename_i ho2
      cases hD
      exact ⟨_, X₀ _ _ ho2, rfl⟩
    · cases hD
  have envE : ∀ L, callEnv (ksFn "__init__" q params (errBody f p0 p1 p2 p3 p4 p5 p6 p7 p8 p9) scope dV kV doc pm an (.ref cda) ct cc) L fI = ksEnv q scope L fI (.ref cda) cc := fun L => rfl
  rw [envE]
  have kE : (ksEnv q scope hh.objs.size fI (.ref cda) cc).scope.kind = .function := F1.kind
  refine ks_wpAt_execs_cons (ks_wpAt_Expr_any (call_at hpl ?_) (by unfold interactive; rw [kE]; rfl))
  · refine ks_wpAt_super_base (env := ksEnv q scope hh.objs.size fI (.ref cda) cc) F1.sSuper F1.sClass (by decide +kernel) rfl (X₀ _ _ ho) rfl har rfl (X₀ _ _ hcode) rfl hvs hfile T.top ?_
    refine ks_loadName_global kE F1.sSuper (Calls.loadGlobal_builtin (env := ksEnv q scope hh.objs.size fI (.ref cda) cc) (hg.keepsP k) hgs (hb.keepsP k) (hbs.trans (by decide +kernel)) ⟨rfl, ?_⟩)
    refine wpAny_loadName_free kE F1.sClass rfl ⟨_, X₀ _ _ hcell, rfl⟩ ?_
    rw [harn]
    refine wpAny_loadName_local kE F1.sSelf hns mSelf ?_
    refine ks_wpAny_isType_cls hD1 hD2 ⟨rfl, ?_⟩
    refine ks_wpAny_call_super hD1 hD2 hx₀ rfl (fun c e => by cases e) (looks_mroIn X₀ F1.mro) (fun h1 e1 k1 => ?_)
    have X₁ : K.In h1 := X₀.keeps k1
    have hx₁ := k1 _ _ hx₀
    have xC : x ≠ C := by
      rintro rfl
      have e := X _ _ hC
      rw [hx] at e
      cases e
    have I1 : InstAt h1 x (HandSPX.excO C t0) C none := ⟨hx₁, rfl, rfl, trivial⟩
    have hm := F1.sup
    unfold ks_superIn at hm
    rw [hcl] at hm
    refine kxs_getMethod kxs_ValueError e1 (looks_opaque X₁ T.opq) (l₀ := .ref C :: bm) (fun A Q E s k q => wpAny_bind ((looks_clsIn X₁ hcl) A _ E s k (wpAny_pure q))) rfl X₁ hm (I1.type.andThen (looks_subIn X₁ T.subV)) xC (by decide +kernel) ?_
    have ns1 := hns.keepsP k1
    have fE : ∀ {M : Model} {A : Around} {E Q : Value → Shared → Prop} {s : Shared} {px : Pos}, s.heap.Ns hh.objs.size (fun x_1 => List.lookup x_1 [(("self" : Str), Value.ref x), (f, v)].reverse) → Q v s → wpAny M A (eval (.Name f px) (ksEnv q scope hh.objs.size fI (.ref cda) cc)) Q E s := fun hn h => wpAny_Name (wpAny_loadName_local kE F1.sF hn mF h) F1.fdb
    have hxL : x ≠ hh.objs.size := Nat.ne_of_lt (Heap.lt_size hx)
    refine kxs_callWith (i := "ValueError.__init__") (x := x) rfl (Calls.evalArgs_plain ?_)
    refine Calls.spliced_cons (fE (by exact ns1.keepsP fun b o e => Heap.get?_push_of_some _ e) ?_)
    refine Calls.spliced_nil ⟨Heap.get?_push_at rfl rfl, ?_⟩
    have kp : ∀ b o, h1.get? b = some o → (h1.push (kxs_mw "ValueError.__init__" x)).get? b = some o := fun b o e => Heap.get?_push_of_some _ e
    refine call_wrap (rest := [v]) (X₁.keeps kp _ _ hC) (kp _ _ hx₁) (Heap.get?_push_at rfl rfl) (by show 1 ≤ sizeLine; rw [sizeLine_eq]; decide) fun h2 k2 e2 => ?_
    have k02 : ∀ b o, b ≠ x → h₀.get? b = some o → h2.get? b = some o := fun b o n e => k2 b o n (kp b o (k1 b o e))
    have X₂ : K.In h2 := fun b o e => k2 b o (fun z => by rw [z, hnx] at e; cases e) (kp b o (X₁ b o e))
    have ns2 : h2.Ns hh.objs.size (fun x_1 => List.lookup x_1 [(("self" : Str), Value.ref x), (f, v)].reverse) := hns.at fun o e => k02 _ o (Ne.symm hxL) e
    refine wpAt_of_wpAny ?_
    refine wpAny_execs_cons (plainObj_wpAny_Assign_Attribute ?_)
    refine fE ns2 (wpAny_Name (wpAny_loadName_local kE F1.sSelf ns2 mSelf ?_) (by decide +kernel))
    refine set_plain X₂ (od := none) ⟨e2, rfl, rfl, trivial⟩ T.oex.sa ?_
    refine HandSPX.exc_osa X₂ e2 hcl (show HandSPX.refsVE (.ref C :: bm) = true from hbm) rfl T.noN (fun h₃ tk₃ dx k₃ dn dne hx₃ hn₃ => ?_)
    refine wpAny_execs_nil (hq h₃ tk₃ dx ⟨fun b o hb e => k₃ b o hb (k02 b o hb (k b o e)), ⟨_, hx₃⟩, Nat.le_of_lt (Nat.lt_of_lt_of_le ns2.lt dn), dne, hn₃⟩)
theorem err_made (T : ErrTxt prog K C fI f) {v : Value} (X : K.In s.heap) (hlim : s.heap.NoLimit) (hg : s.heap.Ns mainGlobals mg) (hgs : mg "super" = none) (hb : s.heap.Ns builtinsNs mb) (hbs : mb "super" = bootBuiltins "super") (hroom : A.depth + 1 < recursionLimit)
    (hq : ∀ h' tk e d, ErrMade s.heap h' e C d f v → R (.ok (.ret (.ref e))) { s with heap := h', toks := tk }) :
    codeAny (model prog w) A (.call (.ref C) ⟨[v], []⟩) R s := by
  obtain ⟨nm, q, N, bs, bm, sn, sub, ab, col, dd, k0, k1, k2, k3, k5, hC, hbm⟩ := T.oex.cls
  obtain ⟨hp, g, dr, tk, os⟩ := s
  have k : ∀ b o, hp.get? b = some o → ((hp.push (kdv_tup [v])).push (HandSPX.excO C hp.objs.size)).get? b = some o := fun b o e => Heap.get?_push_of_some _ (Heap.get?_push_of_some _ e)
  have hget : ((hp.push (kdv_tup [v])).push (HandSPX.excO C hp.objs.size)).get? (hp.objs.size + 1) = some (HandSPX.excO C hp.objs.size) := by heap_get
  have hnx : K.lookup (hp.objs.size + 1) = none := by
    cases e : K.lookup (hp.objs.size + 1) with
    | none => rfl
    | some o =>
      have z : hp.get? (hp.objs.size + 1) = some o := X _ _ e
      exact absurd (Nat.lt_of_succ_lt (Heap.lt_size z)) (Nat.lt_irrefl _)
  refine HandSPX.call_own F.excBase_ValueError (fun X => HandSPX.refsVE_contains X bm hbm) (X _ _ hC) (looks_findIn X T.iC) (fun self => bind_fn X self T.tI) (by show 1 ≤ sizeLine; rw [sizeLine_eq]; decide) ?_
  refine err_init (s := ⟨(hp.push (kdv_tup [v])).push (HandSPX.excO C hp.objs.size), g, dr, tk, os⟩) T (X.keeps k) (hlim.keeps k) (hg.keepsP k) hgs (hb.keepsP k) hbs hget hnx ?_ fun h' tk' dx ⟨k', ⟨t1, hx⟩, dn, dne, hns⟩ => ?_
  · show A.depth + 1 < recursionLimit
    exact hroom
  · have old : ∀ b o, hp.get? b = some o → h'.get? b = some o := fun b o e => k' b o (Nat.ne_of_lt (Nat.lt_succ_of_lt (Heap.lt_size e))) (k b o e)
    have z : hp.objs.size + 1 + 1 ≤ dx := by
      first
        | (simpa only [Heap.size_push] using dn)
        | exact dn
        | (have q := dn; rw [Heap.size_push, Heap.size_push] at q; exact q)
    exact ⟨rfl, hq h' tk' (hp.objs.size + 1) dx ⟨old, Nat.le_succ _, ⟨_, _, hx, rfl, rfl, rfl, rfl⟩, Nat.le_trans (Nat.le_trans (Nat.le_succ _) (Nat.le_succ _)) z, dne, hns⟩⟩
end
end SD
namespace SD
open PySem L2
theorem relO_err {f : Str} {v : V} {v' : Value} (r : RelV v v') (g : Str) : RelO (List.lookup g [(f, v)]) (if g = f then some v' else none) := by
  by_cases hw : g = f
  · subst hw
    rw [if_pos rfl]
    have q : List.lookup g [(g, v)] = some v := by simp [List.lookup]
    rw [q]
    exact r
  · rw [if_neg hw]
    have qw : (g == f) = false := by simpa using hw
    have q2 : List.lookup g [(f, v)] = none := by simp [List.lookup, qw]
    rw [q2]
    trivial
def tMkErr (C : Addr) (f : Str) (ta : TA) : St → Hp → XK → Prop := fun σ H Q => ta σ H fun vs H1 => ∃ v, vs = [v] ∧ ∀ d, H1 d = none → Q (.ref C) (some d) (upd H1 d (.xd [(f, v)]))
section
variable {X : Cx} {C fI : Addr} {f : Str}
theorem pmk_err {x : Str} {a : Expr} {ta : TA} {p pos : Pos} {k : Nat} (T : ErrTxt X.prog X.K C fI f) (hs : X.mg "super" = none) (hr : Room k X.A) (ha : PA X [a] ta) (hg : Gl X x) (gC : X.mg x = some (.ref C)) (hdb : (x == ("__debug__" : Str)) = false)
    (he : starEach (a :: []) X.env = (false, eval a X.env) :: starEach [] X.env) : PMk X (.Call (.Name x p) [a] [] pos) (tMkErr C f ta) := by
  intro pins s σ H Q I h
  refine wpAny_Call_Name_kw (ld_glob I hg gC ?_ hdb)
  refine PySem.W.callWith_K (h₀ := X.base) I.ok.mod.kin T.oex.kC (thn (ha.run pos pins s σ H _ I h) fun us s1 hh => ?_) he rfl
  obtain ⟨vs, H1, I1, r1, v, ev, q1⟩ := hh
  subst ev
  refine ⟨I1.kIn, ?_⟩
  cases r1 with
  | cons rv rn =>
    rename_i v' us'
    cases rn
    show wpAny _ _ (call (.ref C) [v']) _ _ _
    have hlim := I1.nolimit
    obtain ⟨mb, b1, b2⟩ := I1.mod.blt
    have hmg := I1.mod.glob.keeps I1.bk
    have hmb := b1.keeps I1.bk
    obtain ⟨hp, g, dr, tk, os⟩ := s1
    refine wpAny_call (err_made T I1.kIn hlim hmg hs hmb (b2 "super" (by decide)) (by have := hr.dp; omega) fun h' tk' e d M => ?_)
    show MkP X pins σ Q (.ref e) ⟨h', g, dr, tk', os⟩
    obtain ⟨oe, fv, hoe, hc, hd, hdat, h1⟩ := M.obj
    have hns := M.ns
    obtain ⟨G', g1, g2⟩ := restrict h' fun b => decide (b ≠ e)
    have gk : ∀ b, b ≠ e → G'.get? b = h'.get? b := fun b hb => g1 b (decide_eq_true hb)
    have ge : G'.get? e = none := g2 e (by simp)
    have old : ∀ b o, hp.get? b = some o → G'.get? b = some o := fun b o q => (gk b (Nat.ne_of_lt (Nat.lt_of_lt_of_le (Heap.lt_size q) M.new))).trans (M.keep b o q)
    have ob : ObjOk X.prog X.w (upd H1 d (.xd [(f, v)])) G' d (.xd [(f, v)]) :=
      ⟨_, hns.at (fun o q => (gk d M.dne).trans q), fun f => relO_err rv f⟩
    have J : L2.Inv X pins σ (upd H1 d (.xd [(f, v)])) ⟨G', g, dr, tk', os⟩ := I1.laid (t' := tk') old M.dbig ob
    refine ⟨e, oe, fv, ⟨G', g, dr, tk', os⟩, _, .ref C, some d, rfl, J, fun b o q => ?_, ge, hoe, ⟨hc, hd⟩, hdat, h1, ?_, rfl, I1.bare, raises_own T.oex.exC T.oex.tyC, q1 d (I1.hok.fresh M.dbig)⟩
    · by_cases hb : b = e
      · have q' : G'.get? b = some o := q
        rw [hb, ge] at q'; cases q'
      · exact (gk b hb).symm.trans q
    · rw [upd_ne (Ne.symm M.dne)]
      exact I1.hok.fresh M.new
end
end SD

-- SE1
set_option Elab.async false
set_option linter.all false
set_option maxRecDepth 100000
set_option maxHeartbeats 4000000
namespace SD
open PySem PySem.W
/-! ### own errors of two fields: super().__init__(v, w), self.f = v, self.g = w -/
def errBody2 (f g : Str) (p0 p1 p2 p3 q3 p4 p5 p6 p7 p8 p9 r6 r7 r8 r9 : Pos) : List Stmt :=
  [.Expr (.Call (.Attribute (.Call (.Name "super" p0) [] [] p1) "__init__" p2) [.Name f p3, .Name g q3] [] p4) p5, .Assign [.Attribute (.Name "self" p6) f p7] (.Name f p8) p9, .Assign [.Attribute (.Name "self" r6) g r7] (.Name g r8) r9]
structure ErrFn2 (prog : Program) (K : Frag) (C fI : Addr) (f g : Str) (q : Str) (params : Arguments) (scope : Scope) (cda cc D : Addr) : Prop where
  fn : ∃ (oc : Value) (od : Option Addr) (doc pm : Value) (an : Option Addr) (dV kV ct : Value) (osl : Array (Option Value)) (p0 p1 p2 p3 q3 p4 p5 p6 p7 p8 p9 r6 r7 r8 r9 : Pos), (p2.endLine == p4.line) = true ∧ K.lookup fI = some ⟨oc, od, .func (ksFn "__init__" q params (errBody2 f g p0 p1 p2 p3 q3 p4 p5 p6 p7 p8 p9 r6 r7 r8 r9) scope dV kV doc pm an (.ref cda) ct cc), osl⟩ ∧
    ∀ (u v v2 : Value), bindArgs (ksFn "__init__" q params (errBody2 f g p0 p1 p2 p3 q3 p4 p5 p6 p7 p8 p9 r6 r7 r8 r9) scope dV kV doc pm an (.ref cda) ct cc) ⟨[u, v, v2], []⟩ = pure [(("self" : Str), u), (f, v), (g, v2)]
  code : codeIn K (.ref cda) q = true
  file : ∃ (ccl : Value) (cdd : Option Addr) (vs : Array Value) (ccs : Array (Option Value)) (fl : Str) (tf : Tok), K.lookup cda = some ⟨ccl, cdd, .fields vs, ccs⟩ ∧ vs[2]? = some (.str fl tf) ∧ ((prog.main.file : Str) == fl) = true
  cell : ∃ (cl : Value) (cld : Option Addr) (csl : Array (Option Value)), K.lookup cc = some ⟨cl, cld, .cell (some (.ref D)), csl⟩
  clsD : ∃ cd, clsIn K D = some cd
  mro : mroIn K C (.ref D) = some true
  sup : ks_superIn K C D "__init__" = some (some (.builtin "ValueError.__init__"))
  par : ∃ ar, (params.posonlyargs ++ params.args).head? = some ar ∧ ar.arg = "self"
  sSelf : scope.names.lookup ("self" : Str) = some .local
  sF : scope.names.lookup f = some .local
  sG : scope.names.lookup g = some .local
  sSuper : scope.names.lookup ("super" : Str) = some .globalImplicit
  sClass : scope.names.lookup ("__class__" : Str) = some .free
  nocell : ∀ x ∈ scope.names, x.2 ≠ .cell
  co : scope.isCoroutine = false
  gen : scope.isGenerator = false
  kind : scope.kind = .function
  fne : (("self" : Str) == f) = false
  gne : (("self" : Str) == g) = false
  fgn : (f == g) = false
  gfn : (g == f) = false
  fdb : (f == ("__debug__" : Str)) = false
  gdb : (g == ("__debug__" : Str)) = false
structure ErrTxt2 (prog : Program) (K : Frag) (C fI : Addr) (f g : Str) : Prop where
  oex : L2.OexC K C
  iC : findIn K (.ref C) "__init__" = some (some (.ref fI))
  tI : typeIn K (.ref fI) = some (.type "function")
  noN : findIn K (.ref C) f = some none
  noG : findIn K (.ref C) g = some none
  subV : subIn K (.ref C) (.type "ValueError") = some true
  opq : nsIn K cStatics "thirdparty.any" = some none
  top : (prog.main.scope.names.lookup ("super" : Str)).isSome = false
  fn : ∃ q params scope cda cc D, ErrFn2 prog K C fI f g q params scope cda cc D
def two (f g : Str) (v v2 : Value) : Str → Option Value := fun y => if y = g then some v2 else if y = f then some v else none
structure ErrEnd2 (h h' : Heap) (x C dx : Addr) (m : Str → Option Value) : Prop where
  keep : ∀ b o, b ≠ x → h.get? b = some o → h'.get? b = some o
  obj : ∃ t1, h'.get? x = some { cls := .ref C, dict := some dx, data := .fields #[.ref t1, .none, .none, .none, .bool false, .none] }
  dbig : h.objs.size ≤ dx
  dne : dx ≠ x
  ns : h'.Ns1 dx m
theorem call_at2 {M : Model} {A : Around} {c : Code} {E : Value → Shared → Prop} {s : Shared} {env : PySem.Env} {o : Expr} {name : Str} {apos pos : Pos} {x y : Str} {xp yp : Pos} {Q : Value → Shared → Prop} (hl : (apos.endLine == pos.line) = true)
    (h : wpAt M A c (attributeBase o name env (eval o env)) (fun ov s₁ => wpAny M A (getMethod ov name (do return (← importBound o env).getD true)) (fun fx s₂ => wpAny M A (callWith pos fx.1 fx.2 (backTo pos (starEach [.Name x xp, .Name y yp] env)) []) Q E s₂) E s₁) E s) :
    wpAt M A c (eval (.Call (.Attribute o name apos) [.Name x xp, .Name y yp] [] pos) env) Q E s := by
  show wpAt M A c (do
    let ov ← attributeBase o name env (eval o env)
    standAt apos.atName
    methodCall o name apos pos env ov 2 (backTo pos (starEach [.Name x xp, .Name y yp] env)) []) Q E s
  refine wpAt_bind (wpAt_mono h (fun ov s₁ h₁ => wpAt_of_wpAny (wpAny_bind (wpAny_standAt ?_))) fun _ _ x => x)
  unfold methodCall
  refine wpAny_bind (wpAny_holding ?_)
  show wpAny M A (getMethod ov name (do return (← importBound o env).getD true)) _ _ _
  refine wpAny_mono h₁ (fun fx s₂ h₂ => ?_) fun _ _ x => x
  refine wpAny_bind ?_
  unfold methodCallPos
  rw [if_pos (by rw [hl]; rfl)]
  exact wpAny_pure h₂
structure ErrMade2 (h h' : Heap) (e C d : Addr) (m : Str → Option Value) : Prop where
  keep : ∀ b o, h.get? b = some o → h'.get? b = some o
  new : h.objs.size ≤ e
  obj : ∃ oe vs, h'.get? e = some oe ∧ oe.cls = .ref C ∧ oe.dict = some d ∧ oe.data = .fields vs ∧ vs[1]? = some .none
  dbig : h.objs.size ≤ d
  dne : d ≠ e
  ns : h'.Ns1 d m
section
variable {prog : Program} {w : World} {A : Around} {E : Value → Shared → Prop} {R : Result → Shared → Prop} {s : Shared} {K : Frag} {C fI : Addr} {f g : Str} {mg mb : Str → Option Value}
theorem err_init2 (T : ErrTxt2 prog K C fI f g) {x t0 : Addr} {v v2 : Value} (X : K.In s.heap) (hlim : s.heap.NoLimit) (hg : s.heap.Ns mainGlobals mg) (hgs : mg "super" = none) (hb : s.heap.Ns builtinsNs mb) (hbs : mb "super" = bootBuiltins "super")
    (hx : s.heap.get? x = some (HandSPX.excO C t0)) (hnx : K.lookup x = none) (hroom : A.depth < recursionLimit)
    (hq : ∀ h' tk dx, ErrEnd2 s.heap h' x C dx (two f g v v2) → R (.ok (.ret .none)) { s with heap := h', toks := tk }) : codeAny (model prog w) A (.call (.ref fI) ⟨[.ref x, v, v2], []⟩) R s := by
  obtain ⟨q, params, scope, cda, cc, D, F1⟩ := T.fn
  obtain ⟨oc, od, doc, pm, an, dV, kV, ct, osl, p0, p1, p2, p3, q3, p4, p5, p6, p7, p8, p9, r6, r7, r8, r9, hpl, ho, hbind⟩ := F1.fn
  obtain ⟨ccl, cdd, vs, ccs, fl, tf, hcode, hvs, hfile⟩ := F1.file
  obtain ⟨cl, cld, csl, hcell⟩ := F1.cell
  obtain ⟨cdD, hD⟩ := F1.clsD
  obtain ⟨ar, har, harn⟩ := F1.par
  obtain ⟨nm, qn, N, bs, bm, sn, sub, ab, col, dd, k0, k1, k2, k3, k5, hC, hbm⟩ := T.oex.cls
  have hcl : clsIn K C = some { name := nm, bases := bs, mro := .ref C :: bm, ns := N, qualname := qn, hasDict := true, slotNames := sn, subclasses := sub, abstract := ab, collection := col, hasDel := false } := by unfold clsIn; rw [hC] <;> rfl
  refine ks_codeAny_call_defAt (binds := [(("self" : Str), .ref x), (f, v), (g, v2)]) hroom (X _ _ ho) rfl hlim (codeRec_of X F1.code) rfl (BindsTo.of_eq (hbind _ _ _)) F1.nocell (fun y hy => ?_) (fun h₀ hns k => ?_) F1.co F1.gen F1.kind
  · rcases List.mem_cons.mp hy with rfl | hy
    · exact F1.sSelf
    · rcases List.mem_cons.mp hy with rfl | hy
      · exact F1.sF
      · rw [List.mem_singleton.mp hy]; exact F1.sG
  obtain ⟨hh, g0, d, t, os⟩ := s
  have mSelf : (fun z : Str => ([(("self" : Str), Value.ref x), (f, v), (g, v2)] : List (Str × Value)).reverse.lookup z) "self" = some (.ref x) := by
    have e := F1.fne
    have e2 := F1.gne
    simp [List.lookup, e, e2]
  have mF : (fun z : Str => ([(("self" : Str), Value.ref x), (f, v), (g, v2)] : List (Str × Value)).reverse.lookup z) f = some v := by
    have e := F1.fgn
    simp [List.lookup, e]
  have mG : (fun z : Str => ([(("self" : Str), Value.ref x), (f, v), (g, v2)] : List (Str × Value)).reverse.lookup z) g = some v2 := by simp [List.lookup]
  have X₀ : K.In h₀ := X.keeps k
  have hx₀ := k _ _ hx
  obtain ⟨oD, hD1, hD2⟩ : ∃ oD, h₀.get? D = some oD ∧ oD.data = .cls cdD := by
    unfold clsIn at hD
    split at hD
    · rename_i ho2
      cases hD
      exact ⟨_, X₀ _ _ ho2, rfl⟩
    · cases hD
  have envE : ∀ L, callEnv (ksFn "__init__" q params (errBody2 f g p0 p1 p2 p3 q3 p4 p5 p6 p7 p8 p9 r6 r7 r8 r9) scope dV kV doc pm an (.ref cda) ct cc) L fI = ksEnv q scope L fI (.ref cda) cc := fun L => rfl
  rw [envE]
  have kE : (ksEnv q scope hh.objs.size fI (.ref cda) cc).scope.kind = .function := F1.kind
  refine ks_wpAt_execs_cons (ks_wpAt_Expr_any (call_at2 hpl ?_) (by unfold interactive; rw [kE]; rfl))
  · refine ks_wpAt_super_base (env := ksEnv q scope hh.objs.size fI (.ref cda) cc) F1.sSuper F1.sClass (by decide +kernel) rfl (X₀ _ _ ho) rfl har rfl (X₀ _ _ hcode) rfl hvs hfile T.top ?_
    refine ks_loadName_global kE F1.sSuper (Calls.loadGlobal_builtin (env := ksEnv q scope hh.objs.size fI (.ref cda) cc) (hg.keepsP k) hgs (hb.keepsP k) (hbs.trans (by decide +kernel)) ⟨rfl, ?_⟩)
    refine wpAny_loadName_free kE F1.sClass rfl ⟨_, X₀ _ _ hcell, rfl⟩ ?_
    rw [harn]
    refine wpAny_loadName_local kE F1.sSelf hns mSelf ?_
    refine ks_wpAny_isType_cls hD1 hD2 ⟨rfl, ?_⟩
    refine ks_wpAny_call_super hD1 hD2 hx₀ rfl (fun c e => by cases e) (looks_mroIn X₀ F1.mro) (fun h1 e1 k1 => ?_)
    have X₁ : K.In h1 := X₀.keeps k1
    have hx₁ := k1 _ _ hx₀
    have xC : x ≠ C := by
      rintro rfl
      have e := X _ _ hC
      rw [hx] at e
      cases e
    have I1 : InstAt h1 x (HandSPX.excO C t0) C none := ⟨hx₁, rfl, rfl, trivial⟩
    have hm := F1.sup
    unfold ks_superIn at hm
    rw [hcl] at hm
    refine kxs_getMethod kxs_ValueError e1 (looks_opaque X₁ T.opq) (l₀ := .ref C :: bm) (fun A Q E s k q => wpAny_bind ((looks_clsIn X₁ hcl) A _ E s k (wpAny_pure q))) rfl X₁ hm (I1.type.andThen (looks_subIn X₁ T.subV)) xC (by decide +kernel) ?_
    have ns1 := hns.keepsP k1
    have fE : ∀ {M : Model} {A : Around} {E Q : Value → Shared → Prop} {s : Shared} {px : Pos}, s.heap.Ns hh.objs.size (fun x_1 => List.lookup x_1 [(("self" : Str), Value.ref x), (f, v), (g, v2)].reverse) → Q v s → wpAny M A (eval (.Name f px) (ksEnv q scope hh.objs.size fI (.ref cda) cc)) Q E s := fun hn h => wpAny_Name (wpAny_loadName_local kE F1.sF hn mF h) F1.fdb
    have gE : ∀ {M : Model} {A : Around} {E Q : Value → Shared → Prop} {s : Shared} {px : Pos}, s.heap.Ns hh.objs.size (fun x_1 => List.lookup x_1 [(("self" : Str), Value.ref x), (f, v), (g, v2)].reverse) → Q v2 s → wpAny M A (eval (.Name g px) (ksEnv q scope hh.objs.size fI (.ref cda) cc)) Q E s := fun hn h => wpAny_Name (wpAny_loadName_local kE F1.sG hn mG h) F1.gdb
    have hxL : x ≠ hh.objs.size := Nat.ne_of_lt (Heap.lt_size hx)
    refine kxs_callWith (i := "ValueError.__init__") (x := x) rfl (Calls.evalArgs_plain ?_)
    have nsp := ns1.keepsP (h' := h1.push (kxs_mw "ValueError.__init__" x)) fun b o e => Heap.get?_push_of_some _ e
    refine Calls.spliced_cons (fE (by exact nsp) ?_)
    refine Calls.spliced_cons (gE (by exact nsp) ?_)
    refine Calls.spliced_nil ⟨Heap.get?_push_at rfl rfl, ?_⟩
    have kp : ∀ b o, h1.get? b = some o → (h1.push (kxs_mw "ValueError.__init__" x)).get? b = some o := fun b o e => Heap.get?_push_of_some _ e
    refine call_wrap (rest := [v, v2]) (X₁.keeps kp _ _ hC) (kp _ _ hx₁) (Heap.get?_push_at rfl rfl) (by show 2 ≤ sizeLine; rw [sizeLine_eq]; decide) fun h2 k2 e2 => ?_
    have k02 : ∀ b o, b ≠ x → h₀.get? b = some o → h2.get? b = some o := fun b o n e => k2 b o n (kp b o (k1 b o e))
    have X₂ : K.In h2 := fun b o e => k2 b o (fun z => by rw [z, hnx] at e; cases e) (kp b o (X₁ b o e))
    have ns2 : h2.Ns hh.objs.size (fun x_1 => List.lookup x_1 [(("self" : Str), Value.ref x), (f, v), (g, v2)].reverse) := hns.at fun o e => k02 _ o (Ne.symm hxL) e
    refine wpAt_of_wpAny ?_
    refine wpAny_execs_cons (plainObj_wpAny_Assign_Attribute ?_)
    refine fE ns2 (wpAny_Name (wpAny_loadName_local kE F1.sSelf ns2 mSelf ?_) (by decide +kernel))
    refine set_plain X₂ (od := none) ⟨e2, rfl, rfl, trivial⟩ T.oex.sa ?_
    refine HandSPX.exc_osa X₂ e2 hcl (show HandSPX.refsVE (.ref C :: bm) = true from hbm) rfl T.noN (fun h₃ tk₃ dx k₃ dn dne hx₃ hn₃ => ?_)
    have X₃ : K.In h₃ := fun b o e => k₃ b o (fun z => by rw [z, hnx] at e; cases e) (X₂ b o e)
    have ns3 : h₃.Ns hh.objs.size (fun x_1 => List.lookup x_1 [(("self" : Str), Value.ref x), (f, v), (g, v2)].reverse) := ns2.at fun o e => k₃ _ o (Ne.symm hxL) e
    have w3 : Within (fun y => if y = f then some v else none) [f] := Within.cons f v Within.nil
    obtain ⟨oD3, esD, epD, hoD, hdD, _⟩ := hn₃.count w3
    refine wpAny_execs_cons (plainObj_wpAny_Assign_Attribute ?_)
    refine gE ns3 (wpAny_Name (wpAny_loadName_local kE F1.sSelf ns3 mSelf ?_) (by decide +kernel))
    refine set_plain X₃ (od := some oD3) ⟨hx₃, rfl, rfl, hoD⟩ T.oex.sa ?_
    refine OEX.osa_old X₃ hx₃ hn₃ w3 (by simp) hcl (show HandSPX.refsVE (.ref C :: bm) = true from hbm) rfl T.noG (fun h₄ tk₄ k₄ hn₄ => ?_)
    have dge : hh.objs.size ≤ dx := Nat.le_of_lt (Nat.lt_of_lt_of_le ns2.lt dn)
    refine wpAny_execs_nil (hq h₄ tk₄ dx ⟨fun b o hb e => k₄ b o (Nat.ne_of_lt (Nat.lt_of_lt_of_le (Heap.lt_size e) dge)) (k₃ b o hb (k02 b o hb (k b o e))), ⟨_, k₄ x _ (Ne.symm dne) hx₃⟩, dge, dne, hn₄⟩)
theorem err_made2 (T : ErrTxt2 prog K C fI f g) {v v2 : Value} (X : K.In s.heap) (hlim : s.heap.NoLimit) (hg : s.heap.Ns mainGlobals mg) (hgs : mg "super" = none) (hb : s.heap.Ns builtinsNs mb) (hbs : mb "super" = bootBuiltins "super") (hroom : A.depth + 1 < recursionLimit)
    (hq : ∀ h' tk e d, ErrMade2 s.heap h' e C d (two f g v v2) → R (.ok (.ret (.ref e))) { s with heap := h', toks := tk }) :
    codeAny (model prog w) A (.call (.ref C) ⟨[v, v2], []⟩) R s := by
  obtain ⟨nm, q, N, bs, bm, sn, sub, ab, col, dd, k0, k1, k2, k3, k5, hC, hbm⟩ := T.oex.cls
  obtain ⟨hp, g0, dr, tk, os⟩ := s
  have k : ∀ b o, hp.get? b = some o → ((hp.push (kdv_tup [v, v2])).push (HandSPX.excO C hp.objs.size)).get? b = some o := fun b o e => Heap.get?_push_of_some _ (Heap.get?_push_of_some _ e)
  have hget : ((hp.push (kdv_tup [v, v2])).push (HandSPX.excO C hp.objs.size)).get? (hp.objs.size + 1) = some (HandSPX.excO C hp.objs.size) := by heap_get
  have hnx : K.lookup (hp.objs.size + 1) = none := by
    cases e : K.lookup (hp.objs.size + 1) with
    | none => rfl
    | some o =>
      have z : hp.get? (hp.objs.size + 1) = some o := X _ _ e
      exact absurd (Nat.lt_of_succ_lt (Heap.lt_size z)) (Nat.lt_irrefl _)
  refine HandSPX.call_own F.excBase_ValueError (fun X => HandSPX.refsVE_contains X bm hbm) (X _ _ hC) (looks_findIn X T.iC) (fun self => bind_fn X self T.tI) (by show 2 ≤ sizeLine; rw [sizeLine_eq]; decide) ?_
  refine err_init2 (s := ⟨(hp.push (kdv_tup [v, v2])).push (HandSPX.excO C hp.objs.size), g0, dr, tk, os⟩) T (X.keeps k) (hlim.keeps k) (hg.keepsP k) hgs (hb.keepsP k) hbs hget hnx ?_ fun h' tk' dx ⟨k', ⟨t1, hx⟩, dn, dne, hns⟩ => ?_
  · show A.depth + 1 < recursionLimit
    exact hroom
  · have old : ∀ b o, hp.get? b = some o → h'.get? b = some o := fun b o e => k' b o (Nat.ne_of_lt (Nat.lt_succ_of_lt (Heap.lt_size e))) (k b o e)
    have z : hp.objs.size + 1 + 1 ≤ dx := by
      first
        | (simpa only [Heap.size_push] using dn)
        | exact dn
        | (have q := dn; rw [Heap.size_push, Heap.size_push] at q; exact q)
    exact ⟨rfl, hq h' tk' (hp.objs.size + 1) dx ⟨old, Nat.le_succ _, ⟨_, _, hx, rfl, rfl, rfl, rfl⟩, Nat.le_trans (Nat.le_trans (Nat.le_succ _) (Nat.le_succ _)) z, dne, hns⟩⟩
end
end SD
namespace SD
open PySem L2
theorem relO_two {f g : Str} (hfg : (f == g) = false) {v v2 : V} {u u2 : Value} (r : RelV v u) (r2 : RelV v2 u2) (y : Str) : RelO (List.lookup y [(f, v), (g, v2)]) (two f g u u2 y) := by
  unfold two
  by_cases hg : y = g
  · subst hg
    rw [if_pos rfl]
    have e1 : (y == f) = false := by
      have := hfg
      simp at this ⊢
      exact fun z => this z.symm
    have q : List.lookup y [(f, v), (y, v2)] = some v2 := by simp [List.lookup, e1]
    rw [q]
    exact r2
  · rw [if_neg hg]
    by_cases hf : y = f
    · subst hf
      rw [if_pos rfl]
      have q : List.lookup y [(y, v), (g, v2)] = some v := by simp [List.lookup]
      rw [q]
      exact r
    · rw [if_neg hf]
      have q1 : (y == f) = false := by simpa using hf
      have q2 : (y == g) = false := by simpa using hg
      have q : List.lookup y [(f, v), (g, v2)] = none := by simp [List.lookup, q1, q2]
      rw [q]
      trivial
def tMkErr2 (C : Addr) (f g : Str) (ta : TA) : St → Hp → XK → Prop := fun σ H Q => ta σ H fun vs H1 => ∃ v v2, vs = [v, v2] ∧ ∀ d, H1 d = none → Q (.ref C) (some d) (upd H1 d (.xd [(f, v), (g, v2)]))
section
variable {X : Cx} {C fI : Addr} {f g : Str}
theorem pmk_err2 {x : Str} {a b : Expr} {ta : TA} {p pos : Pos} {k : Nat} (T : ErrTxt2 X.prog X.K C fI f g) (hs : X.mg "super" = none) (hr : Room k X.A) (ha : PA X [a, b] ta) (hg : Gl X x) (gC : X.mg x = some (.ref C)) (hdb : (x == ("__debug__" : Str)) = false)
    (he : starEach [a, b] X.env = (false, eval a X.env) :: starEach [b] X.env) (hpl : (backTo pos (starEach [b] X.env)).any (·.1) = false) : PMk X (.Call (.Name x p) [a, b] [] pos) (tMkErr2 C f g ta) := by
  intro pins s σ H Q I h
  refine wpAny_Call_Name_kw (ld_glob I hg gC ?_ hdb)
  refine PySem.W.callWith_K (h₀ := X.base) I.ok.mod.kin T.oex.kC (thn (ha.run pos pins s σ H _ I h) fun us s1 hh => ?_) he hpl
  obtain ⟨vs, H1, I1, r1, v, v2, ev, q1⟩ := hh
  subst ev
  refine ⟨I1.kIn, ?_⟩
  cases r1 with
  | cons rv r2 =>
    rename_i v' us'
    cases r2 with
    | cons rv2 rn =>
      rename_i v2' us2
      cases rn
      show wpAny _ _ (call (.ref C) [v', v2']) _ _ _
      have hlim := I1.nolimit
      obtain ⟨mb, b1, b2⟩ := I1.mod.blt
      have hmg := I1.mod.glob.keeps I1.bk
      have hmb := b1.keeps I1.bk
      obtain ⟨hp, g0, dr, tk, os⟩ := s1
      have hfg : (f == g) = false := by
        obtain ⟨q, params, scope, cda, cc, D, F1⟩ := T.fn
        exact F1.fgn
      refine wpAny_call (err_made2 T I1.kIn hlim hmg hs hmb (b2 "super" (by decide)) (by have := hr.dp; omega) fun h' tk' e d M => ?_)
      show MkP X pins σ Q (.ref e) ⟨h', g0, dr, tk', os⟩
      obtain ⟨oe, fv, hoe, hc, hd, hdat, h1⟩ := M.obj
      have hns := M.ns
      obtain ⟨G', g1, g2⟩ := restrict h' fun b => decide (b ≠ e)
      have gk : ∀ b, b ≠ e → G'.get? b = h'.get? b := fun b hb => g1 b (decide_eq_true hb)
      have ge : G'.get? e = none := g2 e (by simp)
      have old : ∀ b o, hp.get? b = some o → G'.get? b = some o := fun b o q => (gk b (Nat.ne_of_lt (Nat.lt_of_lt_of_le (Heap.lt_size q) M.new))).trans (M.keep b o q)
      have ob : ObjOk X.prog X.w (upd H1 d (.xd [(f, v), (g, v2)])) G' d (.xd [(f, v), (g, v2)]) :=
        ⟨_, hns.at (fun o q => (gk d M.dne).trans q), fun y => relO_two hfg rv rv2 y⟩
      have J : L2.Inv X pins σ (upd H1 d (.xd [(f, v), (g, v2)])) ⟨G', g0, dr, tk', os⟩ := I1.laid (t' := tk') old M.dbig ob
      refine ⟨e, oe, fv, ⟨G', g0, dr, tk', os⟩, _, .ref C, some d, rfl, J, fun b o q => ?_, ge, hoe, ⟨hc, hd⟩, hdat, h1, ?_, rfl, I1.bare, raises_own T.oex.exC T.oex.tyC, q1 d (I1.hok.fresh M.dbig)⟩
      · by_cases hb : b = e
        · have q' : G'.get? b = some o := q
          rw [hb, ge] at q'; cases q'
        · exact (gk b hb).symm.trans q
      · rw [upd_ne (Ne.symm M.dne)]
        exact I1.hok.fresh M.new
end
end SD

-- SD16
set_option Elab.async false
set_option linter.all false
set_option maxRecDepth 100000
set_option maxHeartbeats 2000000
namespace SD
open PySem L2
/-! ### statements -/
def ErrK (prog : Program) (K : PySem.W.Frag) (C : Addr) : List Str → Prop
  | [] => True
  | [f] => ∃ fI, ErrTxt prog K C fI f
  | [f, g] => ∃ fI, ErrTxt2 prog K C fI f g
  | _ => False
structure ErrC (G : GC) (X : Cx) (x : Str) (ns : List Str) : Prop where
  ex : ∃ C : Addr, X.mg x = some (.ref C) ∧ G.ca x = some C ∧ ErrK X.prog X.K C ns ∧ ExcC X.K C ∧ ∀ f ∈ ns, PySem.W.findIn X.K (.ref C) f = some none
abbrev GC.at (G : GC) (i : ExI) : GC := { G with ex := some i }
/-- what a def that lists the kinds of an error promises -/
def spK (T : Tab) (ab : List Str × List Str) (c : Str) : SpD := fun ds S _ Q => ∃ fs, ds = [.exc c fs] ∧ Q (.lref (S.length + 2)) (S ++ [.lst (ab.1.map fun k => .bl (T.isa c k)), .lst (ab.2.map fun k => .bl (T.isa c k)), .lst ((ab.1 ++ ab.2).map fun k => .bl (T.isa c k))])
structure FnP (G : GC) (T : Tab) (P : Program) (w : World) (K : PySem.W.Frag) (mg : Str → Option Value) (base : Heap) (k : Nat) (f : Addr) (fd : FuncData) (ps : List Str) (ab : List Str × List Str) : Prop where
  run : ∀ (A : Around) (outer : List PySem.Env) (s : Shared) (H : Hp) (args : Args) (us : List Value) (i : ExI) (Cc : Addr) (p : Addr × Obj) (Q : VK), L2H.RoomH k A → A.guards = some [] → L2H.PinOk outer H s p →
    Env0 P w K mg base A outer s H → BindsTo s fd args (ps.zip us) → us = [.ref i.a] → p.1 = i.a → Zc (.ref Cc) (some i.d) p.2 → (∃ vs, p.2.data = .fields vs) → G.ca i.c = some Cc → (T.exc i.c).isSome = true →
    LSp (G.at i) 1 (spK T ab i.c) [.ref i.a] H Q (fun _ _ _ => False) → codeAny (model P w) A (.call (.ref f) args) (CR (L2.CX P w) outer P w H s Q fun _ _ _ => False) s
structure KinC (G : GC) (T : Tab) (X : Cx) (f : Str) (ab : List Str × List Str) : Prop where
  ex : ∃ (k : Nat) (a : Addr) (fd : FuncData) (ps : List Str), X.mg f = some (.ref a) ∧ PySem.W.keepIn X.K (.ref a) = true ∧ Binds X.K fd ps [] ∧ ps.length = 1 ∧ Room k X.A ∧ FnP G T X.prog X.w X.K X.mg X.base k a fd ps ab
/-- the class that a name tells in isinstance -/
def yVal (G : GC) (T : Tab) (y : Str) : Option Value := if y = "ValueError" then some (.type "ValueError") else if (T.exc y).isSome = true then (G.ca y).map Value.ref else none
structure StOk (G : GC) (C : TC) (X : Cx) (W : WX) : Prop extends CtxOk G C X W where
  hc : C.calm = true
  wr : C.wr = none
  stk : X.stack = X.env :: X.outer
  frm : X.env.frame = some X.env.locals
  exn : G.ex = none
  sup : X.mg "super" = none
  exc : ∀ x ns, C.T.exc x = some ns → ErrC G X x ns
  isa : ∀ x y C1 C2, G.ca x = some C1 → G.ca y = some C2 → (C.T.exc x).isSome = true → (C.T.exc y).isSome = true → PySem.W.exmOne X.K (.ref C1) (.ref C2) = some (C.T.isa x y)
  isi : ∀ x y C1 v, G.ca x = some C1 → (C.T.exc x).isSome = true → yVal G C.T y = some v → PySem.W.kitOne X.K (.ref C1) v = some (C.T.isa x y)
  kin : ∀ f ab, C.T.kin f = some ab → KinC G C.T X f ab
structure EndsOk (G : GC) (W : WX) (H : Hp) (as : List Addr) (D : DEnds) (V : Ends) : Prop where
  nx : ∀ σ' H' as' env' S', Ext H as H' as' → RepE G H' as' env' σ' → RepS G H' as' S' → D.nx env' S' → V.nx σ' H'
  rt : Post G H as D.rt V.rt
  ex : ∀ x cls d σ' H' as' env' S', Ext H as H' as' → RepE G H' as' env' σ' → RepS G H' as' S' → RepX G H' as' x cls d → D.ex x env' S' → W cls d σ' H'
  bk : ∀ σ' H' as' env' S', Ext H as H' as' → RepE G H' as' env' σ' → RepS G H' as' S' → D.bk env' S' → V.bk σ' H'
  ct : ∀ σ' H' as' env' S', Ext H as H' as' → RepE G H' as' env' σ' → RepS G H' as' S' → D.ct env' S' → V.ct σ' H'
def LS (G : GC) (W : WX) (t : SS) : TS := fun V σ H => ∃ (env : Env) (S : Store) (as : List Addr) (D : DEnds), RepE G H as env σ ∧ RepS G H as S ∧ t D env S ∧ EndsOk G W H as D V
section
variable {G : GC} {C : TC} {X : Cx} {W : WX} {H : Hp} {as : List Addr} {S : Store}
theorem EndsOk.mono {H' : Hp} {as' : List Addr} {D : DEnds} {V : Ends} (k : EndsOk G W H as D V) (e : Ext H as H' as') : EndsOk G W H' as' D V :=
  ⟨fun σ2 H2 as2 env2 S2 e2 => k.nx σ2 H2 as2 env2 S2 (e.trans e2), fun v H2 as2 d S2 e2 => k.rt v H2 as2 d S2 (e.trans e2), fun x cls d σ2 H2 as2 env2 S2 e2 => k.ex x cls d σ2 H2 as2 env2 S2 (e.trans e2),
    fun σ2 H2 as2 env2 S2 e2 => k.bk σ2 H2 as2 env2 S2 (e.trans e2), fun σ2 H2 as2 env2 S2 e2 => k.ct σ2 H2 as2 env2 S2 (e.trans e2)⟩
/-- exceptions in an expression of a statement -/
theorem EndsOk.exOk {D : DEnds} {V : Ends} {env : Env} {σ : St} (k : EndsOk G W H as D V) (hs : RepS G H as S) (he : RepE G H as env σ) : ExOk G (fun c d h => W c d σ h) H as (fun x S1 => D.ex x env S1) :=
  fun x cls d H' as' S' e r rx q => k.ex x cls d σ H' as' env S' e (he.mono hs e) r rx q
theorem PS.le {st : Stmt} {t : SS} {u : TS} (h : PS X st u) (i : ∀ V σ H env S as D, RepE G H as env σ → RepS G H as S → t D env S → EndsOk G W H as D V → u V σ H) : PS X st (LS G W t) :=
  PS.imp h fun V σ H ⟨env, S, as, D, he, hs, ht, k⟩ => i V σ H env S as D he hs ht k
theorem PSs.le {st : List Stmt} {t : SS} {u : TS} (h : PSs X st u) (i : ∀ V σ H env S as D, RepE G H as env σ → RepS G H as S → t D env S → EndsOk G W H as D V → u V σ H) : PSs X st (LS G W t) :=
  ⟨fun pins s σ H V I ⟨env, S, as, D, he, hs, ht, k⟩ => h.run pins s σ H V I (i V σ H env S as D he hs ht k)⟩
theorem ls_next {st : Stmt} (h : PS X st tNext) : PS X st (LS G W sNext) := PS.le h fun V σ H env S as D he hs ht k => k.nx σ H as env S (.refl _ _) he hs ht
theorem ls_expr {e : Expr} {t : SE} {pos : Pos} (he : PE X e (LE G W t)) (hs : swapsWith e none pos.line X.env = pure false) : PS X (.Expr e pos) (LS G W (sExpr t)) :=
  PS.le (ps_expr he hs) fun V σ H env S as D he hs ht k => le_mk he hs (k.exOk hs he) ht fun v H1 as1 d S1 e1 he1 hs1 hx1 r1 q1 => k.nx σ H1 as1 env S1 e1 he1 hs1 q1
theorem ls_ret {e : Expr} {t : SE} {pos : Pos} (he : PE X e (LE G W t)) : PS X (.Return (some e) pos) (LS G W (sRet t)) :=
  PS.le (ps_ret he) fun V σ H env S as D he hs ht k => le_mk he hs (k.exOk hs he) ht fun v H1 as1 d S1 e1 he1 hs1 hx1 r1 q1 => k.rt v H1 as1 d S1 e1 hs1 r1 q1
theorem ls_retN {pos : Pos} : PS X (.Return none pos) (LS G W sRetN) := PS.le ps_retN fun V σ H env S as D he hs ht k => k.rt .non H as .non S (.refl _ _) hs rfl ht
theorem ls_break {pos : Pos} : PS X (.Break pos) (LS G W sBreak) := PS.le ps_break fun V σ H env S as D he hs ht k => k.bk σ H as env S (.refl _ _) he hs ht
theorem ls_cont {pos : Pos} : PS X (.Continue pos) (LS G W sCont) := PS.le ps_continue fun V σ H env S as D he hs ht k => k.ct σ H as env S (.refl _ _) he hs ht
/-! blocks -/
theorem lss_nil : PSs X [] (LS G W (sSeq [])) := PSs.le pss_nil fun V σ H env S as D he hs ht k => k.nx σ H as env S (.refl _ _) he hs ht
theorem lss_cons {st : Stmt} {rest : List Stmt} {t : SS} {ts : List SS} (h1 : PS X st (LS G W t)) (h2 : PSs X rest (LS G W (sSeq ts))) : PSs X (st :: rest) (LS G W (sSeq (t :: ts))) :=
  PSs.le (pss_cons h1 h2) fun V σ H env S as D he hs ht k =>
    ⟨env, S, as, { D with nx := sSeq ts D }, he, hs, ht, ⟨fun σ' H' as' env' S' e he' hs' q => ⟨env', S', as', D, he', hs', q, k.mono e⟩, k.rt, k.ex, k.bk, k.ct⟩⟩
theorem ls_if {c : Expr} {a b : List Stmt} {tc : ST} {ta tb : SS} {pos : Pos} (hc : PT X c (LT G W tc)) (ha : PSs X a (LS G W ta)) (hb : PSs X b (LS G W tb)) : PS X (.If c a b pos) (LS G W (sIf tc ta tb)) :=
  PS.le (ps_if hc ha hb) fun V σ H env S as D he hs ht k => lt_mk he hs (k.exOk hs he) ht fun d H1 as1 S1 e1 he1 hs1 hx1 q1 => by
    cases d with
    | true => exact ⟨env, S1, as1, D, he1, hs1, q1, k.mono e1⟩
    | false => exact ⟨env, S1, as1, D, he1, hs1, q1, k.mono e1⟩
theorem ls_while {c : Expr} {body : List Stmt} {tc : ST} {tb : SS} {pos : Pos} (cx : CtxOk G C X W) (hc : PT X c (LT G W tc)) (hb : PSs X body (LS G W tb)) : PS X (.While c body [] pos) (LS G W (sWhile tc tb)) :=
  PS.le (ps_while cx.po hc hb) fun V σ H env S as D he hs ⟨n, ht⟩ k => by
    refine ⟨fun m σ' H' => ∃ as' env' S', Ext H as H' as' ∧ RepE G H' as' env' σ' ∧ RepS G H' as' S' ∧ whileN tc tb D m env' S', ⟨n, as, env, S, .refl _ _, he, hs, ht⟩, ?_⟩
    rintro m σ' H' ⟨as', env', S', e, he', hs', ht'⟩
    cases m with
    | zero => exact ht'.elim
    | succ m =>
      refine lt_mk he' hs' ((k.mono e).exOk hs' he') ht' fun d H1 as1 S1 e1 he1 hs1 hx1 q1 => ?_
      have k1 := (k.mono e).mono e1
      cases d with
      | false => exact k1.nx _ _ _ _ _ (.refl _ _) he1 hs1 q1
      | true =>
        refine iteT ⟨fun σ' H' => ∃ as' env' S', Ext H as H' as' ∧ RepE G H' as' env' σ' ∧ RepS G H' as' S' ∧ whileN tc tb D m env' S', fun σ2 H2 z => ⟨m, Nat.lt_succ_self m, z⟩, env', S1, as1, _, he1, hs1, q1, ?_⟩
        exact ⟨fun σ2 H2 as2 env2 S2 e2 he2 hs2 q2 => ⟨as2, env2, S2, (e.trans e1).trans e2, he2, hs2, q2⟩, k1.rt, k1.ex, k1.nx, fun σ2 H2 as2 env2 S2 e2 he2 hs2 q2 => ⟨as2, env2, S2, (e.trans e1).trans e2, he2, hs2, q2⟩⟩
theorem ls_for {tg iter : Expr} {body : List Stmt} {ti : SI} {g : SG} {tb : SS} {pos : Pos} (cx : CtxOk G C X W) (hcalm : C.calm = true) (hset : isSet iter = false) (hi : PI X tg iter (LI G W ti)) (hg : PG X tg (LG G C W g)) (hb : PSs X body (LS G W tb)) :
    PS X (.For tg iter body [] pos) (LS G W (sFor ti g tb)) :=
  PS.le (ps_for cx.po (cx.calm hcalm) hi hg hb (by cases iter <;> first | (intro _; rfl) | cases hset)) fun V σ H env S as D he hs ht k => by
    refine ⟨env, S, as, _, _, he, hs, k.exOk hs he, ht, fun J ds keep H1 as1 S1 e1 he1 hs1 hx1 q1 it => ?_⟩
    refine ⟨fun i m σ' H' => m = ds.length - i ∧ i ≤ ds.length ∧ ∃ as' env' S', Ext H1 as1 H' as' ∧ RepE G H' as' env' σ' ∧ RepS G H' as' S' ∧ forLoop keep g tb D (ds.drop i) env' S',
      ⟨ds.length, rfl, Nat.zero_le _, as1, env, S1, .refl _ _, he1, hs1, q1⟩, ?_⟩
    rintro i m σ' H' ⟨rfl, hi', as', env', S', e2, he2, hs2, q2⟩
    have it2 := it.later e2
    have k2 := (k.mono e1).mono e2
    by_cases hlt : i < ds.length
    · have hd : ds.drop i = ds[i] :: ds.drop (i + 1) := List.drop_eq_getElem_cons hlt
      rw [hd] at q2
      obtain ⟨kp, q2⟩ := q2
      refine .inr ⟨it2.go i H' as' S' (.refl _ _) hs2 kp hlt, fun σ3 H3 => i + 1 ≤ ds.length ∧ ∃ as' env' S', Ext H1 as1 H3 as' ∧ RepE G H3 as' env' σ3 ∧ RepS G H3 as' S' ∧ forLoop keep g tb D (ds.drop (i + 1)) env' S',
        fun σ3 H3 z => ⟨ds.length - (i + 1), by omega, rfl, z⟩, fun x H3 y => ?_⟩
      obtain ⟨e3, hs3, r3⟩ := it2.yld i H' as' S' x H3 ds[i] (.refl _ _) hs2 kp y (List.getElem?_eq_getElem hlt)
      refine ⟨env', S', as', ds[i], _, he2.mono hs2 e3, hs3, r3, q2, fun σ4 H4 as4 env4 S4 e4 he4 hs4 l4 o4 q4 => ?_⟩
      have k4 := (k2.mono e3).mono e4
      have e14 := (e2.trans e3).trans e4
      refine ⟨env4, S4, as4, _, he4, hs4, q4, ?_⟩
      exact ⟨fun σ5 H5 as5 env5 S5 e5 he5 hs5 q5 => ⟨hlt, as5, env5, S5, e14.trans e5, he5, hs5, q5⟩, k4.rt, k4.ex, k4.nx, fun σ5 H5 as5 env5 S5 e5 he5 hs5 q5 => ⟨hlt, as5, env5, S5, e14.trans e5, he5, hs5, q5⟩⟩
    · have ei : i = ds.length := by omega
      subst ei
      rw [List.drop_length] at q2
      obtain ⟨kp, q2⟩ := q2
      exact .inl ⟨it2.stop H' as' S' (.refl _ _) hs2 kp, k2.nx _ _ _ _ _ (.refl _ _) he2 hs2 q2⟩
/-! stores -/
theorem asg_mk {V : Ends} {σ : St} {env : Env} {D : DEnds} {t : SE} {g : SG} (he : RepE G H as env σ) (hs : RepS G H as S) (ht : sAsg t g D env S) (k : EndsOk G W H as D V) : tAsg (LE G W t) (LG G C W g) V σ H :=
  le_mk he hs (k.exOk hs he) ht fun v H1 as1 d S1 e1 he1 hs1 hx1 r1 q1 => ⟨env, S1, as1, d, _, he1, hs1, r1, q1, fun σ2 H2 as2 env2 S2 e2 he2 hs2 l2 o2 q2 => k.nx _ _ _ _ _ (e1.trans e2) he2 hs2 q2⟩
theorem ls_asg {tg e : Expr} {t : SE} {g : SG} {pos : Pos} (he : PE X e (LE G W t)) (hg : PG X tg (LG G C W g)) (hs : swapsWithSole [tg] e pos.line X.env = pure false) (hw : swappedStores [tg] e X.env = pure none) (h1 : (assignEach [tg] X.env).map (·.2) = [assign tg X.env]) :
    PS X (.Assign [tg] e pos) (LS G W (sAsg t g)) := PS.le (ps_asg he hg hs hw h1) fun V σ H env S as D he hs ht k => asg_mk he hs ht k
end
end SD

-- SD17
set_option Elab.async false
set_option linter.all false
set_option maxRecDepth 100000
set_option maxHeartbeats 2000000
namespace SD
open PySem L2
section
variable {G : GC} {C : TC} {X : Cx} {W : WX} {H : Hp} {as : List Addr} {S : Store}
/-! ### which stores are swapped -/
def isStarred : Expr → Bool
  | .Starred .. => true
  | _ => false
def parts2 (tg e : Expr) : Option (List Expr × List Expr) := match tg, e with
  | .Tuple ts _ _, .Tuple vs _ _ => some (ts, vs)
  | .List ts _, .Tuple vs _ _ => some (ts, vs)
  | _, _ => none
def swNames (sc : Scope) (line : Nat) (ts : List Expr) : List Str := ts.filterMap fun
  | .Name id pos => if sc.names.lookup id == some .local && pos.line == line then some id else none
  | _ => none
def swSt (sc : Scope) (tg e : Expr) : Option (Option (List Str)) := match parts2 tg e with
  | none => some none
  | some (ts, vs) =>
    if (!(ts.length == 2 || ts.length == 3) || vs.length != ts.length) = true then some none
    else if vs.any isStarred = true then some none
    else
      let names := swNames sc ((ts.head?.map (·.pos.line)).getD 0) ts
      if (names.length != ts.length || names.eraseDups.length != names.length) = true then some none
      else if vs.all (foldedForSure 8) = true then some none
      else if vs.all (constantsAlone 8) = true then none
      else some (some names)
theorem sw_ok {env : PySem.Env} (hk : env.scope.kind = .function) {tg e : Expr} {r : Option (List Str)} (h : swSt env.scope tg e = some r) : swappedStores [tg] e env = pure r := by
  have hb : env.blockKind = .function := by unfold Env.blockKind; rw [hk]; rfl
  unfold swSt at h
  unfold swappedStores
  cases hp : parts2 tg e with
  | none =>
    rw [hp] at h
    cases h
    unfold parts2 at hp
    cases tg <;> first | rfl | (cases e <;> first | rfl | cases hp)
  | some tv =>
    obtain ⟨ts, vs⟩ := tv
    rw [hp] at h
    unfold parts2 at hp
    split at hp <;> cases hp
    all_goals (
      have hbk : (env.blockKind != ScopeKind.function) = false := by rw [hb]; rfl
      simp only [hbk, Bool.or_false]
      dsimp only at h
      split at h
      · rename_i q; cases h; rw [if_pos q]
      · rename_i q; rw [if_neg q]
        split at h
        · rename_i q; cases h; exact if_pos q
        · rename_i q
          refine (if_neg q).trans ?_
          split at h
          · rename_i q; cases h; exact if_pos q
          · rename_i q
            refine (if_neg q).trans ?_
            split at h
            · rename_i q; cases h; exact if_pos q
            · rename_i q
              refine (if_neg q).trans ?_
              split at h
              · cases h
              · rename_i q
                cases h
                exact (if_neg q).trans rfl)
/-- does name = [..] swap -/
def lcSw (sc : Scope) (tg : Expr) (scope : Scope) (cpos : Pos) : Bool := match tg with
  | .Name y py => sc.names.lookup y == some .local && py.line == cpos.line && !(scope.names.any fun (n, k) => n == y && (k == .local || k == .cell))
  | _ => false
theorem lcSw_ok {env : PySem.Env} (hk : env.scope.kind = .function) {tg elt : Expr} {gens : List Comprehension} {scope : Scope} {cpos : Pos} {l : Nat} : swapsWith (.ListComp elt gens scope cpos) (some tg) l env = pure (lcSw env.scope tg scope cpos) := by
  have hb : env.blockKind = .function := by unfold Env.blockKind; rw [hk]; rfl
  unfold swapsWith lcSw
  cases tg <;> first | rfl | (simp only [hb]; rfl)
theorem sw_plain {e : Expr} (h : isComp e = false) (tg : Option Expr) (l : Nat) (env : PySem.Env) : swapsWith e tg l env = pure false := by
  cases e <;> first | rfl | cases h
theorem ev_one {tg : Expr} (h : plainE tg = true) (env : PySem.Env) : (assignEach [tg] env).map (·.2) = [assign tg env] := by
  rw [asg_cons h]; rfl
/-! ### name = [..] -/
theorem lc_le {t : Env → Store → QX → QL → Prop} {σ : St} {Q : VK} (h : LE G W (fun env S E Q => t env S E fun ys S1 => Q (.lref S1.length) (S1 ++ [.lst ys])) σ H Q) : LC G W t σ H Q := by
  obtain ⟨env, S, as, E, Qd, he, hs, hx, ht, k⟩ := h
  refine ⟨env, S, as, E, _, he, hs, hx, ht, fun L vs H' as' ys S' e he' hs' hL nL nH r hl q => ?_⟩
  refine k (.ref L) H' (as' ++ [L]) (.lref S'.length) (S' ++ [.lst ys]) ⟨?_, e.keep, fun a m n => ?_⟩ (hs'.adopt hL nL r) (rep_last hs') q
  · obtain ⟨r, z⟩ := e.pre
    exact ⟨r ++ [L], by rw [z, List.append_assoc]⟩
  · rcases List.mem_append.mp m with m | m
    · exact e.fresh a m n
    · rw [List.mem_singleton.mp m]; exact nH
theorem asg_var {V : Ends} {σ : St} {env : Env} {D : DEnds} {t : SE} {i : Nat} (he : RepE G H as env σ) (hs : RepS G H as S) (ht : sAsg t (gVar i) D env S) (k : EndsOk G W H as D V) : LE G W t σ H fun x H1 => gName i x σ H1 V.nx :=
  le_mk he hs (k.exOk hs he) ht fun v H1 as1 d S1 e1 he1 hs1 hx1 r1 q1 => k.nx _ _ _ _ _ e1 (repE_set he1 r1) hs1 q1
theorem ls_setLc {elt tg iter : Expr} {ifs : List Expr} {scope : Scope} {pos spos py : Pos} {y : Str} {i : Nat} {si : SI} {sg : SG} {st : ST} {se : SE} (c : CtxOk G C X W) (hcalm : C.calm = true) (hy : ixOf C.N y = some i) (hyl : C.sc.names.lookup y = some .local)
    (hsw : lcSw C.sc (.Name y py) scope pos = true) (hset : isSet iter = false) (hb : blkC C.N C.sc scope (ownOf C.N scope.names) = true) (hi : PI X tg iter (LI G W si))
    (hg : ∀ {X' : Cx}, CtxOk G (C.blk scope) X' (fun _ _ _ _ => False) → PG X' tg (LG G (C.blk scope) (fun _ _ _ _ => False) sg))
    (ht : ∀ {X' : Cx}, CtxOk G (C.blk scope) X' (fun _ _ _ _ => False) → PTs X' ifs (LT G (fun _ _ _ _ => False) st))
    (he : ∀ {X' : Cx}, CtxOk G (C.blk scope) X' (fun _ _ _ _ => False) → PE X' elt (LE G (fun _ _ _ _ => False) se)) :
    PS X (.Assign [.Name y py] (.ListComp elt [⟨tg, iter, ifs, 0⟩] scope pos) spos) (LS G W (sAsg (eComp si ((ownOf C.N scope.names).map Prod.snd) sg st se) (gVar i))) := by
  have ok : BlkOk X.N X.env.scope scope (ownOf C.N scope.names) := by
    rw [c.N, c.sc]
    exact blkOk_by hb
  have cb := fun s H A cl fp => ctx_blk c hcalm ok s H A cl fp
  refine PS.le (ps_setLc (own := ownOf C.N scope.names) (c.calm hcalm) (by rw [c.N]; exact c.nd) (by rw [c.N]; exact ixOf_get hy) (by rw [c.sc]; exact hyl) (by rw [lcSw_ok c.kind, c.sc, hsw]) hi ok
    (fun s H A cl fp => hg (cb s H A cl fp)) (fun s H A cl fp => ht (cb s H A cl fp)) (fun s H A cl fp => he (cb s H A cl fp)) (by cases iter <;> first | (intro _; rfl) | cases hset)) fun V σ H env S as D he hs ht k => ?_
  exact lc_imp (lc_le (asg_var he hs ht k))
/-! ### a, b = x, y -/
theorem ls_par2 {x y : Str} {i j : Nat} {a b : Expr} {ta tb : SE} {px py pt pt2 pos : Pos} {kt k2 : Nat} (c : CtxOk G C X W) (hcalm : C.calm = true) (hi : ixOf C.N x = some i) (hj : ixOf C.N y = some j) (hij : i ≠ j) (hx : C.sc.names.lookup x = some .local) (hy : C.sc.names.lookup y = some .local)
    (ha : PA X [a, b] (LA G W 2 (eList [ta, tb]))) (hw : swSt C.sc (.Tuple [.Name x px, .Name y py] kt pt) (.Tuple [a, b] k2 pt2) = some (some [x, y])) :
    PS X (.Assign [.Tuple [.Name x px, .Name y py] kt pt] (.Tuple [a, b] k2 pt2) pos) (LS G W (sAsg (eTup [ta, tb]) (gTup [gVar i, gVar j]))) := by
  refine PS.le (ps_par (c.calm hcalm) (by rw [c.N]; exact c.nd) (by rw [c.N]; exact ixOf_get hi) (by rw [c.N]; exact ixOf_get hj) hij (by rw [c.sc]; exact hx) (by rw [c.sc]; exact hy) ha (sw_ok c.kind (by rw [c.sc]; exact hw)) rfl) fun V σ H env S as D he hs ht k => ?_
  have ht' : eList [ta, tb] env S (fun x S1 => D.ex x env S1) (fun ds S1 => gTup [gVar i, gVar j] (.tup ds) env S1 noX D.nx) := ht
  refine la_mk he hs (k.exOk hs he) ht' fun vs H1 as1 ds S1 e1 he1 hs1 hx1 r1 l1 q1 => ?_
  match ds, l1, r1, q1 with
  | [d1, d2], _, ⟨v1, _, e2, r2, v2, _, e3, r3, e4⟩, q1 =>
    subst e4 e3 e2
    exact ⟨v1, v2, rfl, k.nx _ _ _ _ _ e1 (repE_set (repE_set he1 r2) r3) hs1 q1.2⟩
theorem ls_par3 {x y z : Str} {i j l : Nat} {a b d : Expr} {ta tb td : SE} {px py pz pt pt2 pos : Pos} {kt k2 : Nat} (c : CtxOk G C X W) (hcalm : C.calm = true) (hi : ixOf C.N x = some i) (hj : ixOf C.N y = some j) (hl : ixOf C.N z = some l) (hij : i ≠ j) (hil : i ≠ l) (hjl : j ≠ l)
    (hx : C.sc.names.lookup x = some .local) (hy : C.sc.names.lookup y = some .local) (hz : C.sc.names.lookup z = some .local)
    (ha : PA X [a, b, d] (LA G W 3 (eList [ta, tb, td]))) (hw : swSt C.sc (.Tuple [.Name x px, .Name y py, .Name z pz] kt pt) (.Tuple [a, b, d] k2 pt2) = some (some [x, y, z])) :
    PS X (.Assign [.Tuple [.Name x px, .Name y py, .Name z pz] kt pt] (.Tuple [a, b, d] k2 pt2) pos) (LS G W (sAsg (eTup [ta, tb, td]) (gTup [gVar i, gVar j, gVar l]))) := by
  refine PS.le (ps_par3 (c.calm hcalm) (by rw [c.N]; exact c.nd) (by rw [c.N]; exact ixOf_get hi) (by rw [c.N]; exact ixOf_get hj) (by rw [c.N]; exact ixOf_get hl) hij hil hjl (by rw [c.sc]; exact hx) (by rw [c.sc]; exact hy) (by rw [c.sc]; exact hz) ha (sw_ok c.kind (by rw [c.sc]; exact hw)) rfl) fun V σ H env S as D he hs ht k => ?_
  have ht' : eList [ta, tb, td] env S (fun x S1 => D.ex x env S1) (fun ds S1 => gTup [gVar i, gVar j, gVar l] (.tup ds) env S1 noX D.nx) := ht
  refine la_mk he hs (k.exOk hs he) ht' fun vs H1 as1 ds S1 e1 he1 hs1 hx1 r1 l1 q1 => ?_
  match ds, l1, r1, q1 with
  | [d1, d2, d3], _, ⟨v1, _, e2, r2, v2, _, e3, r3, v3, _, e4, r4, e5⟩, q1 =>
    subst e5 e4 e3 e2
    exact ⟨v1, v2, v3, rfl, k.nx _ _ _ _ _ e1 (repE_set (repE_set (repE_set he1 r2) r3) r4) hs1 q1.2⟩
/-! ### name op= e, of ints -/
def iop (f : Int → Int → Int) : D → D → Store → QV → Prop
  | .int i, .int j, S, Q => Q (.int (f i j)) S
  | _, _, _, _ => False
theorem ls_aug {x : Str} {i : Nat} {e : Expr} {te : SE} {op : Operator} {f : Int → Int → Int} {px pos : Pos} (c : CtxOk G C X W) (ht : tgB C x = true) (hi : ixOf C.N x = some i) (he : PE X e (LE G W te)) (ho : PIp X op (ipI f)) :
    PS X (.AugAssign (.Name x px) op e pos) (LS G W (augD (iop f) i te)) := by
  obtain ⟨h1, h2⟩ := c.tg x ht
  refine PS.le (ps_aug (by rw [c.N]; exact c.nd) (by rw [c.N]; exact ixOf_get hi) h1 he ho h2) fun V σ H env S as D he hs ht k => ?_
  obtain ⟨d, e1, q⟩ := look_get ht
  obtain ⟨v, e2, r⟩ := he.get i d e1
  refine ⟨v, e2, le_mk he hs (k.exOk hs he) q fun v2 H1 as1 d2 S1 e3 he1 hs1 hx1 r1 q1 => ?_⟩
  unfold iop at q1
  split at q1
  · cases r
    cases r1
    exact ⟨_, _, rfl, rfl, k.nx _ _ _ _ _ e3 (repE_set (d := .int _) (v := .int _) he1 rfl) hs1 q1⟩
  · exact q1.elim
/-! ### raise -/
theorem Ext.other {p : Addr} {o : HO} (hp : H p = none) : Ext H as (upd H p o) as := ⟨⟨[], by simp⟩, fun q o' h _ => by rw [upd_ne (ne_of_none h hp)]; exact h, fun a h n => absurd h n⟩
theorem ls_raise {x f : Str} {a : Expr} {ta : SE} {p cpos pos : Pos} (c : StOk G C X W) (hp : plainB x = true) (hg : glK (C.sc.names.lookup x) = true) (he : C.T.exc x = some [f]) (hpe : plainE a = true) (ha : PA X [a] (LA G W 1 (eList [ta]))) :
    PS X (.Raise (some (.Call (.Name x p) [a] [] cpos)) none pos) (LS G W (sRaise C.T x [ta])) := by
  obtain ⟨Ca, gC, gca, ⟨fI, T⟩, _, _⟩ := (c.exc x _ he).ex
  have sc := star_cons (es := []) hpe X.env
  refine PS.le (ps_raise (c.calm c.hc) c.tk (pmk_err T c.sup (c.room c.hc) ha (gl_of c.toCtxOk hg) gC (plain_of hp).1 sc)) fun V σ H env S as D he' hs ht k => ?_
  unfold sRaise at ht
  rw [he] at ht
  refine la_mk he' hs (k.exOk hs he') ht fun vs H1 as1 ds S1 e2 he1 hs1 hx1 r1 l1 q1 => ?_
  match ds, l1, r1, q1 with
  | [d1], _, ⟨v1, _, e3, r2, e4⟩, q1 =>
    subst e4 e3
    refine ⟨v1, rfl, fun d hd => ?_⟩
    refine k.ex ⟨x, [(f, d1)]⟩ (.ref Ca) (some d) σ _ as1 env S1 (e2.trans (Ext.other hd)) (he1.mono hs1 (Ext.other hd)) (hs1.other hd) ?_ q1.2
    exact ⟨Ca, d, _, gca, rfl, rfl, upd_same, v1, [], rfl, Rep.mono hs1 (Ext.other hd) _ _ r2, rfl⟩
theorem ls_raise2 {x f g : Str} {a b : Expr} {ta tb : SE} {p cpos pos : Pos} (c : StOk G C X W) (hp : plainB x = true) (hg : glK (C.sc.names.lookup x) = true) (he : C.T.exc x = some [f, g]) (hpe : plainE a = true) (hpb : plainE b = true) (ha : PA X [a, b] (LA G W 2 (eList [ta, tb]))) :
    PS X (.Raise (some (.Call (.Name x p) [a, b] [] cpos)) none pos) (LS G W (sRaise C.T x [ta, tb])) := by
  obtain ⟨Ca, gC, gca, ⟨fI, T⟩, _, _⟩ := (c.exc x _ he).ex
  have sc := star_cons (es := [b]) hpe X.env
  have sc2 := star_cons (es := []) hpb X.env
  refine PS.le (ps_raise (c.calm c.hc) c.tk (pmk_err2 T c.sup (c.room c.hc) ha (gl_of c.toCtxOk hg) gC (plain_of hp).1 sc (by rw [sc2]; rfl))) fun V σ H env S as D he' hs ht k => ?_
  unfold sRaise at ht
  rw [he] at ht
  refine la_mk he' hs (k.exOk hs he') ht fun vs H1 as1 ds S1 e2 he1 hs1 hx1 r1 l1 q1 => ?_
  match ds, l1, r1, q1 with
  | [d1, d2], _, ⟨v1, _, e3, r2, v2, _, e4, r3, e5⟩, q1 =>
    subst e5 e4 e3
    refine ⟨v1, v2, rfl, fun d hd => ?_⟩
    refine k.ex ⟨x, [(f, d1), (g, d2)]⟩ (.ref Ca) (some d) σ _ as1 env S1 (e2.trans (Ext.other hd)) (he1.mono hs1 (Ext.other hd)) (hs1.other hd) ?_ q1.2
    exact ⟨Ca, d, _, gca, rfl, rfl, upd_same, v1, _, rfl, Rep.mono hs1 (Ext.other hd) _ _ r2, v2, [], rfl, Rep.mono hs1 (Ext.other hd) _ _ r3, rfl⟩
end
end SD

-- SD18
set_option Elab.async false
set_option linter.all false
set_option maxRecDepth 100000
set_option maxHeartbeats 2000000
namespace SD
open PySem L2
abbrev TC.hot (C : TC) : TC := { C with calm := false }
section
variable {G : GC} {C : TC} {X : Cx} {W : WX} {H : Hp} {as : List Addr} {S : Store}
mutual
theorem rep_in (hx : G.ex = none) (i : ExI) : ∀ (d : D) (v : V), Rep G H as d v → Rep (G.at i) H as d v
  | .non, _, h => h
  | .bl _, _, h => h
  | .int _, _, h => h
  | .str _, _, h => h
  | .tup ds, _, ⟨p, vs, h1, h2, h3⟩ => ⟨p, vs, h1, h2, reps_in hx i ds vs h3⟩
  | .lref k, _, h => h
  | .fn n, _, h => h
  | .scr ns, _, h => h
  | .exc c fs, _, ⟨j, vs, h1, h2, h3, h4⟩ => by rw [hx] at h2; cases h2.1
theorem reps_in (hx : G.ex = none) (i : ExI) : ∀ (ds : List D) (vs : List V), Reps G H as ds vs → Reps (G.at i) H as ds vs
  | [], _, h => h
  | d :: ds, _, ⟨v, q, h1, h2, h3⟩ => ⟨v, q, h1, rep_in hx i d v h2, reps_in hx i ds q h3⟩
theorem repf_in (hx : G.ex = none) (i : ExI) : ∀ (fs : List (Str × D)) (vs : List (Str × V)), RepF G H as fs vs → RepF (G.at i) H as fs vs
  | [], _, h => h
  | (x, d) :: ds, _, ⟨v, q, h1, h2, h3⟩ => ⟨v, q, h1, rep_in hx i d v h2, repf_in hx i ds q h3⟩
end
mutual
theorem rep_out (i : ExI) : ∀ (d : D) (v : V), noEx d = true → Rep (G.at i) H as d v → Rep G H as d v
  | .non, _, _, h => h
  | .bl _, _, _, h => h
  | .int _, _, _, h => h
  | .str _, _, _, h => h
  | .tup ds, _, n, ⟨p, vs, h1, h2, h3⟩ => ⟨p, vs, h1, h2, reps_out i ds vs n h3⟩
  | .lref k, _, _, h => h
  | .fn n, _, _, h => h
  | .scr ns, _, _, h => h
  | .exc c fs, _, n, _ => by cases n
theorem reps_out (i : ExI) : ∀ (ds : List D) (vs : List V), noExs ds = true → Reps (G.at i) H as ds vs → Reps G H as ds vs
  | [], _, _, h => h
  | d :: ds, _, n, ⟨v, q, h1, h2, h3⟩ => by
    have n' : (noEx d && noExs ds) = true := n
    rw [Bool.and_eq_true] at n'
    exact ⟨v, q, h1, rep_out i d v n'.1 h2, reps_out i ds q n'.2 h3⟩
end
mutual
theorem rep_no (hx : G.ex = none) : ∀ (d : D) (v : V), Rep G H as d v → noEx d = true
  | .non, _, h => rfl
  | .bl _, _, h => rfl
  | .int _, _, h => rfl
  | .str _, _, h => rfl
  | .tup ds, _, ⟨p, vs, h1, h2, h3⟩ => reps_no hx ds vs h3
  | .lref k, _, h => rfl
  | .fn n, _, h => rfl
  | .scr ns, _, h => rfl
  | .exc c fs, _, ⟨j, vs, h1, h2, h3, h4⟩ => by rw [hx] at h2; cases h2.1
theorem reps_no (hx : G.ex = none) : ∀ (ds : List D) (vs : List V), Reps G H as ds vs → noExs ds = true
  | [], _, _ => rfl
  | d :: ds, _, ⟨v, q, h1, h2, h3⟩ => by
    show (noEx d && noExs ds) = true
    rw [rep_no hx d v h2, reps_no hx ds q h3]
    rfl
end
theorem RepS.inn (hx : G.ex = none) (i : ExI) (r : RepS G H as S) : RepS (G.at i) H as S := ⟨r.len, r.nd, fun k a c h1 h2 => by
  have q := r.cell k a c h1 h2
  cases c with
  | dct _ => exact q
  | lst ds =>
    obtain ⟨vs, e, q⟩ := q
    exact ⟨vs, e, reps_in hx i ds vs q⟩⟩
theorem RepS.outN {H' : Hp} {as' : List Addr} {S1 : Store} (hx : G.ex = none) {i : ExI} (r0 : RepS G H as S) (r : RepS (G.at i) H' as' S1) (hn : newS S S1) : RepS G H' as' S1 := ⟨r.len, r.nd, fun k a c h1 h2 => by
  have q := r.cell k a c h1 h2
  cases c with
  | dct _ => exact q
  | lst ds =>
    obtain ⟨vs, e, q⟩ := q
    have old : S[k]? = some (.lst ds) → noExs ds = true := fun h2 => by
      obtain ⟨b, hb⟩ : ∃ b, as[k]? = some b := by
        have : k < as.length := by rw [r0.len]; exact (List.getElem?_eq_some_iff.mp h2).1
        exact ⟨as[k], List.getElem?_eq_getElem this⟩
      obtain ⟨vs0, _, q0⟩ := r0.cell k b _ hb h2
      exact reps_no hx ds vs0 q0
    refine ⟨vs, e, reps_out i ds vs ?_ q⟩
    rcases hn with rfl | ⟨g, rfl, hg⟩
    · exact old h2
    · by_cases hk : k < S.length
      · rw [List.getElem?_append_left hk] at h2
        exact old h2
      · rw [List.getElem?_append_right (by omega)] at h2
        exact hg ds (List.mem_of_getElem? h2)⟩
theorem RepF.look {f : Str} : ∀ {fs : List (Str × D)} {vs : List (Str × V)} {d : D}, RepF G H as fs vs → fs.lookup f = some d → ∃ v, vs.lookup f = some v ∧ Rep G H as d v
  | [], _, _, _, e => by cases e
  | (x, d) :: ds, _, d', ⟨v, q, h1, h2, h3⟩, e => by
    subst h1
    rw [List.lookup_cons] at e ⊢
    cases z : f == x with
    | true => rw [z] at e; cases e; exact ⟨v, rfl, h2⟩
    | false => rw [z] at e; exact RepF.look h3 e
/-! ### except suites -/
theorem StOk.suite (c : StOk G C X W) (i : ExI) (a : Addr) (pn : List (Addr × Obj)) : CtxOk (G.at i) C.hot (X.suite a pn) (fun _ _ _ _ => False) where
  K := c.K
  N := c.N
  sc := c.sc
  nd := c.nd
  kind := c.kind
  calm := fun z => absurd (show false = true from z) Bool.false_ne_true
  room := fun z => absurd (show false = true from z) Bool.false_ne_true
  units := c.units
  guards := c.guards
  tg := c.tg
  bi := c.bi
  glob := fun x d e => by
    obtain ⟨u, v, h1, h2, h3⟩ := c.glob x d e
    exact ⟨u, v, h1, h2, fun H as => rep_in c.exn i d v (h3 H as)⟩
  sp := fun z => absurd (show false = true from z) Bool.false_ne_true
  tk := fun u s' ⟨a, B, sI, pins, σ, H, cls, d, e, I, nb, up, sky, na, os, ag, w⟩ => w.elim
  po := PassesOwn.never
structure InSuite (G : GC) (T : Tab) (X : Cx) (i : ExI) (oe : Obj) (cls : Value) (d : Option Addr) (Cc : Addr) : Prop where
  hz : Zc cls d oe
  hf : ∃ vs, oe.data = .fields vs
  d : d = some i.d
  cls : cls = .ref Cc
  ca : G.ca i.c = some Cc
  ex : (T.exc i.c).isSome = true
  xc : ExcC X.K Cc
  no : ∀ f ∈ i.ks, PySem.W.findIn X.K (.ref Cc) f = some none
theorem xf_of {K : PySem.W.Frag} {C : Addr} (h : ExcC K C) : XfC K C := ⟨h.hg, h.hk, h.hs, h.hd⟩
theorem mem_of_lookup {f : Str} {d : D} : ∀ {fs : List (Str × D)}, fs.lookup f = some d → f ∈ fs.map Prod.fst
  | [], e => by cases e
  | (x, y) :: r, e => by
    rw [List.lookup_cons] at e
    cases z : f == x with
    | true => rw [List.map_cons, eq_of_beq z]; exact List.mem_cons_self
    | false => rw [z] at e; exact List.mem_cons_of_mem _ (mem_of_lookup e)
/-! isinstance of the caught error -/
def rIsD (K : PySem.W.Frag) (D a d : Addr) : List V → Hp → VK → Prop := fun xs H Q => ∃ (c : V) (cv : Value) (b : Bool) (fs : List (Str × V)), xs = [.ref a, c] ∧ (∀ u, RelV c u → u = cv) ∧ PySem.W.kitOne K (.ref D) cv = some b ∧ H d = some (.xd fs) ∧ Q (.bl b) H
theorem call_isD {a D d : Addr} {oe : Obj} (C : ExcC X.K D) (hp : (a, oe) ∈ X.pn) (hz : Zc (.ref D) (some d) oe) (hf : ∃ vs, oe.data = .fields vs) : CallR X (.builtin "isinstance") (rIsD X.K D a d) := by
  intro pins s σ H xs us Q I r h
  obtain ⟨c, cv, b, fs, rfl, hcv, e, hd, q⟩ := h
  cases r with
  | cons rx rr =>
    cases rr with
    | cons rt rr =>
      cases rr
      cases rx
      have ec := hcv _ rt
      subst ec
      obtain ⟨hget, _⟩ := I.pin (a, oe) (List.mem_append_left _ hp)
      obtain ⟨vs, hv⟩ := hf
      obtain ⟨mA, hns, hr⟩ := (I.hok d _ hd : ObjOk X.prog X.w H s.heap d (.xd fs))
      obtain ⟨od, ho, hl⟩ := lookIn_ns hns
      have J : PySem.W.InstAt s.heap a oe D (some od) := ⟨hget, hz.1, by unfold PySem.W.notCls; rw [hv] <;> rfl, by rw [hz.2]; exact ho⟩
      have hcl : (PySem.W.clsIn X.K D).isSome = true := by
        have h := C.hd
        unfold PySem.W.hasDictIn at h
        cases e : PySem.W.clsIn X.K D with
        | none => rw [e] at h; cases h
        | some _ => rfl
      exact PySem.W.kia_one (PySem.W.kitx_exc hcl C.hg C.hk C.hs C.ha C.hn C.ht C.hm) I.kIn J e (fun z => nomatch z) fun tk => ⟨.bl b, H, I.kept (t' := tk) fun _ _ z => z, rfl, q⟩
/-- the names of classes -/
structure KlsOk (G : GC) (T : Tab) (X : Cx) : Prop where
  exc : ∀ y, (T.exc y).isSome = true → ∃ C2, X.mg y = some (.ref C2) ∧ G.ca y = some C2
  isi : ∀ x y C1 v, G.ca x = some C1 → (T.exc x).isSome = true → yVal G T y = some v → PySem.W.kitOne X.K (.ref C1) v = some (T.isa x y)
theorem StOk.kls (c : StOk G C X W) : KlsOk G C.T X := ⟨fun y h => by
  obtain ⟨ns, hns⟩ := Option.isSome_iff_exists.mp h
  obtain ⟨C2, h1, h2, _⟩ := (c.exc y ns hns).ex
  exact ⟨C2, h1, h2⟩, c.isi⟩
def trIs (C : TC) : Expr → Option SE
  | .Call (.Name f _) [.Name x _, .Name k _] [] _ => if (decide (f = "isinstance") && glK (C.sc.names.lookup f) && plainB x && visK (C.sc.names.lookup x) && plainB k && glK (C.sc.names.lookup k) && (decide (k = "ValueError") || (C.T.exc k).isSome)) = true then (ixOf C.N x).map fun j => eInst C.T j k else none
  | _ => none
theorem x_is {i : ExI} {oe : Obj} {Cc : Addr} (c : CtxOk (G.at i) C X (fun _ _ _ _ => False)) (hp : (i.a, oe) ∈ X.pn) (hz : Zc (.ref Cc) (some i.d) oe) (hf : ∃ vs, oe.data = .fields vs) (xc : ExcC X.K Cc) (hca : G.ca i.c = some Cc) (hex : (C.T.exc i.c).isSome = true) (L : KlsOk G C.T X)
    {e : Expr} {t : SE} (h : trIs C e = some t) : plainE e = true ∧ asValue e = true ∧ PE X e (LE (G.at i) (fun _ _ _ _ => False) t) := by
  unfold trIs at h
  split at h
  · rename_i f fp x xp k kp pos
    split at h
    · rename_i q
      simp only [Bool.and_eq_true] at q
      obtain ⟨⟨⟨⟨⟨⟨q1, q2⟩, q3⟩, q4⟩, q5⟩, q6⟩, q7⟩ := q
      have q1 := of_decide_eq_true q1
      subst q1
      obtain ⟨j, hj, rfl⟩ := Option.map_eq_some_iff.mp h
      refine ⟨rfl, rfl, ?_⟩
      have px := plain_of q3
      have pk := plain_of q5
      obtain ⟨vk, cv, tx, hcv, hy⟩ : ∃ (vk : V) (cv : Value), PE X (.Name k kp) (tC vk) ∧ (∀ u, RelV vk u → u = cv) ∧ yVal G C.T k = some cv := by
        by_cases hk : k = "ValueError"
        · subst hk
          exact ⟨.ty "ValueError", .type "ValueError", pe_bltn (gl_of c q6) (c.bi _ (by decide +kernel)) (by decide +kernel) rfl pk.2.2 pk.1, fun u r => r, by unfold yVal; rw [if_pos rfl]⟩
        · rw [decide_eq_false hk, Bool.false_or] at q7
          obtain ⟨C2, h1, h2⟩ := L.exc k q7
          exact ⟨.ref C2, .ref C2, pe_glob (gl_of c q6) h1 rfl pk.1, fun u r => r, by unfold yVal; rw [if_neg hk, if_pos q7, h2]; rfl⟩
      have tv := pe_var (X := X) (i := j) (pos := xp) (by rw [c.N]; exact ixOf_get hj) (by rw [c.sc]; exact vis_of q4) px.1 px.2.1
      refine PE.imp (pe_callB (call_isD xc hp hz hf) (gl_of c q2) (c.bi _ (by decide +kernel)) (by decide +kernel) (pa_cons tv (pa_cons tx pa_nil)) (by decide) (by decide)) fun σ H Q ⟨env, S, as, E, Qd, he, hs, hx, ht, kq⟩ => ?_
      obtain ⟨d0, e0, q0⟩ := look_get ht
      split at q0
      · rename_i c0 fs
        obtain ⟨v0, hv0, r0⟩ := he.get j _ e0
        obtain ⟨i', vs, h1, ⟨h2, h3, h4⟩, h5, h6⟩ := r0
        cases h2
        subst h3
        exact ⟨v0, hv0, vk, cv, _, vs, by rw [h1], hcv, L.isi _ k Cc cv hca hex hy, h5, kq.bl hs q0⟩
      · exact q0.elim
    · cases h
  · cases h
/-! f(e) -/
def trKn (C : TC) : Expr → Option SE
  | .Call (.Name f _) [.Name x xp] [] _ => if (plainB f && glK (C.sc.names.lookup f) && (C.T.kin f).isSome && plainB x && visK (C.sc.names.lookup x)) = true then (ixOf C.N x).map fun j => eKin C.T f j else none
  | _ => none
theorem x_kn {i : ExI} {oe : Obj} {cls : Value} {d : Option Addr} {Cc : Addr} {pn : List (Addr × Obj)} (c : StOk G C X W) (z : InSuite G C.T X i oe cls d Cc) {e : Expr} {t : SE} (h : trKn C e = some t) : PE (X.suite i.a ((i.a, oe) :: pn)) e (LE (G.at i) (fun _ _ _ _ => False) t) := by
  unfold trKn at h
  split at h
  · rename_i f fp x xp pos
    split at h
    · rename_i q
      simp only [Bool.and_eq_true] at q
      obtain ⟨⟨⟨⟨q1, q2⟩, q3⟩, q4⟩, q5⟩ := q
      obtain ⟨j, hj, rfl⟩ := Option.map_eq_some_iff.mp h
      obtain ⟨ab, hab⟩ := Option.isSome_iff_exists.mp q3
      obtain ⟨k, a, fd, ps, hm, hk, hb, hn, hr, F⟩ := (c.kin f ab hab).ex
      have c' := c.suite i i.a ((i.a, oe) :: pn)
      have px := plain_of q4
      have tv := pe_var (X := X.suite i.a ((i.a, oe) :: pn)) (i := j) (pos := xp) (by show X.N[j]? = some x; rw [c.N]; exact ixOf_get hj) (by show Vis X.env.scope x; rw [c.sc]; exact vis_of q5) px.1 px.2.1
      refine ⟨fun pins s σ H Q I h => ?_⟩
      obtain ⟨env, S, as, E, Qd, he, hs, hx, ht, kq⟩ := h
      refine wpAny_Call_Name_kw (ld_glob (X := X.suite i.a ((i.a, oe) :: pn)) I (gl_of c' q2) hm ?_ (plain_of q1).1)
      obtain ⟨d0, e0, q0⟩ := look_get ht
      rw [hab] at q0
      split at q0
      · rename_i c0 fs a1 b1 heq
        cases heq
        obtain ⟨v0, hv0, r0⟩ := he.get j _ e0
        have rep := r0
        obtain ⟨i', vs, h1, ⟨h2, h3, h4⟩, h5, h6⟩ := r0
        cases h2
        subst h3
        subst h1
        refine PySem.W.callWith_K (h₀ := X.base) I.ok.mod.kin hk (thn ((pa_cons tv pa_nil).run pos pins s σ H (fun xs H1 => xs = [.ref i.a] ∧ H1 = H) I ⟨_, hv0, rfl, rfl⟩) fun us s1 ⟨xs, H1, I1, r1, e1, e2⟩ => ⟨I1.kIn, ?_⟩) rfl rfl
        subst e1 e2
        cases r1 with
        | cons rx rr =>
          cases rr
          cases rx
          have hl : ([Value.ref i.a] : List Value).length = ps.length := hn.symm
          have b := hb s1 [.ref i.a] I1.kIn (by rw [List.append_nil]; exact hl)
          rw [List.append_nil] at b
          have P1 := I1.pin (i.a, oe) (List.mem_append_left _ List.mem_cons_self)
          have hpin : L2H.PinOk X.stack H1 s1 (i.a, oe) := ⟨P1.1, P1.2.1, fun hm => (List.mem_cons.mp (I1.stkSub i.a hm)).elim P1.2.2.1 P1.2.2.2.1, P1.2.2.2.2⟩
          have hz : Zc (.ref Cc) (some i.d) oe := by have := z.hz; rw [z.cls, z.d] at this; exact this
          refine wpAny_call (codeAny_mono (F.run (X.A.mark (some (.ref i.a))) X.stack s1 H1 ⟨[.ref i.a], []⟩ [.ref i.a] i Cc (i.a, oe) Q ⟨hr.dp, hr.un⟩ c.guards hpin I1.env0 b rfl rfl hz z.hf z.ca z.ex
            ⟨rfl, S, as, [.exc i.c fs], noX, Qd, hs, ⟨_, [], rfl, rep, rfl⟩, fun _ _ _ _ _ _ _ _ _ zz => zz.elim, ⟨fs, rfl, q0⟩, kq⟩) fun r s' hq => ?_)
          cases r with
          | error e =>
            obtain ⟨_, _, _, _, _, _, _, _, _, _, _, _, zz⟩ := hq
            exact zz.elim
          | ok fl =>
            cases fl with
            | ret u => exact I1.after hq
            | next => exact False.elim hq
            | brk => exact False.elim hq
            | cont => exact False.elim hq
      · exact q0.elim
    · cases h
  · cases h
def trAt (C : TC) : Expr → Option SE
  | .Attribute (.Name x _) f _ => if (plainB x && visK (C.sc.names.lookup x)) = true then (ixOf C.N x).map fun j => eB1 (attrD f) (eVar j) else none
  | _ => none
def trX (p : Tr) (C : TC) (e : Expr) : Option SE := match trAt C e with
  | some t => some t
  | none => p.e C e
def trXT (p : Tr) (C : TC) : Expr → Option SE
  | .Tuple es _ _ => if es.length ≤ 1000 then (trArgs (trX p C) es).map eTup else none
  | .IfExp t a b _ => (trIs C t).bind fun tt => (trKn C a).bind fun ta => (p.e C b).map fun tb => eIf (tE tt) ta tb
  | e => trX p C e
theorem x_attr {i : ExI} {oe : Obj} {cls : Value} {d : Option Addr} {Cc : Addr} {pn : List (Addr × Obj)} {x f : Str} {j : Nat} {np apos : Pos} (c : StOk G C X W) (z : InSuite G C.T X i oe cls d Cc) (hp : plainB x = true) (hv : visK (C.sc.names.lookup x) = true) (hj : ixOf C.N x = some j) :
    PE (X.suite i.a ((i.a, oe) :: pn)) (.Attribute (.Name x np) f apos) (LE (G.at i) (fun _ _ _ _ => False) (eB1 (attrD f) (eVar j))) := by
  refine ⟨fun pins s σ H Q I ⟨env, S, as, E, Qd, he, hs, hx, ht, k⟩ => ?_⟩
  have c' := c.suite i i.a ((i.a, oe) :: pn)
  obtain ⟨d0, e0, q0⟩ := look_get ht
  unfold attrD at q0
  split at q0
  · split at q0
    · rename_i c0 fs _ dd hl
      obtain ⟨v0, hv0, r0⟩ := he.get j _ e0
      obtain ⟨i', vs, h1, ⟨h2, h3, h4⟩, h5, h6⟩ := r0
      cases h2
      obtain ⟨v1, hl1, r1⟩ := h6.look hl
      have pn' := plain_of hp
      refine (pe_xf (d := d) (te := tVar j) (xf_of z.xc) (z.no f (h4 ▸ mem_of_lookup hl)) z.hz z.hf (pe_var (X := X.suite i.a ((i.a, oe) :: pn)) (i := j) (by show X.N[j]? = some x; rw [c.N]; exact ixOf_get hj) (by show Vis X.env.scope x; rw [c.sc]; exact vis_of hv) pn'.1 pn'.2.1)).run pins s σ H Q I ?_
      exact ⟨v0, hv0, h1, z.cls, i.d, vs, v1, z.d, h5, hl1, k.same hs r1 q0⟩
    · exact q0.elim
  · exact q0.elim
theorem x_suiteE {p : Tr} (hp : Snd p) {i : ExI} {oe : Obj} {cls : Value} {d : Option Addr} {Cc : Addr} {pn : List (Addr × Obj)} (c : StOk G C X W) (z : InSuite G C.T X i oe cls d Cc) {e : Expr} {t : SE} (h : trX p C.hot e = some t) :
    PE (X.suite i.a ((i.a, oe) :: pn)) e (LE (G.at i) (fun _ _ _ _ => False) t) := by
  unfold trX at h
  split at h
  · rename_i t' ha
    cases h
    unfold trAt at ha
    split at ha
    · split at ha
      · rename_i q
        rw [Bool.and_eq_true] at q
        obtain ⟨j, hj, rfl⟩ := Option.map_eq_some_iff.mp ha
        exact x_attr c z q.1 q.2 hj
      · cases ha
    · cases ha
  · exact hp.e (c.suite i i.a ((i.a, oe) :: pn)) h
theorem x_suite {p : Tr} (hp : Snd p) {i : ExI} {oe : Obj} {cls : Value} {d : Option Addr} {Cc : Addr} {pn : List (Addr × Obj)} (c : StOk G C X W) (z : InSuite G C.T X i oe cls d Cc) {e : Expr} {t : SE} (h : trXT p C.hot e = some t) :
    PE (X.suite i.a ((i.a, oe) :: pn)) e (LE (G.at i) (fun _ _ _ _ => False) t) := by
  unfold trXT at h
  split at h
  · split at h
    · rename_i hl
      obtain ⟨ts, h1, rfl⟩ := Option.map_eq_some_iff.mp h
      unfold trArgs at h1
      split at h1
      · rename_i hs
        exact s_tup hl (s_list (fun q => x_suiteE hp c z q) hs h1)
      · cases h1
    · cases h
  · obtain ⟨tt, h1, h⟩ := Option.bind_eq_some_iff.mp h
    obtain ⟨ta, h2, h⟩ := Option.bind_eq_some_iff.mp h
    obtain ⟨tb, h3, rfl⟩ := Option.map_eq_some_iff.mp h
    have c' := c.suite i i.a ((i.a, oe) :: pn)
    have hz : Zc (.ref Cc) (some i.d) oe := by have := z.hz; rw [z.cls, z.d] at this; exact this
    have k1 := x_is (X := X.suite i.a ((i.a, oe) :: pn)) c' List.mem_cons_self hz z.hf z.xc z.ca z.ex ⟨c.kls.exc, c.kls.isi⟩ h1
    exact s_if (t_val c' k1.2.2 (isTrue_val k1.2.1 _)) (x_kn c z (show trKn C _ = some _ from h2)) (hp.e c' h3)
  · exact x_suiteE hp c z h
/-- a suite that returns -/
def tsH (G : GC) (T : Tab) (X : Cx) (te : SE) : Suite := fun a cls d V σ H => ∃ (i : ExI) (Cc : Addr), i.a = a ∧ d = some i.d ∧ cls = .ref Cc ∧ G.ca i.c = some Cc ∧ (T.exc i.c).isSome = true ∧ ExcC X.K Cc ∧ (∀ f ∈ i.ks, PySem.W.findIn X.K (.ref Cc) f = some none) ∧ LE (G.at i) (fun _ _ _ _ => False) te σ H V.rt
theorem ss_suite {p : Tr} (hp : Snd p) (c : StOk G C X W) {e : Expr} {t : SE} {rp : Pos} (h : trXT p C.hot e = some t) (a : Addr) (oe : Obj) (cls : Value) (d : Option Addr) (pn : List (Addr × Obj)) (hz : Zc cls d oe) (hf : ∃ vs, oe.data = .fields vs) :
    PSs (X.suite a ((a, oe) :: pn)) [.Return (some e) rp] (tsH G C.T X t a cls d) := by
  refine ⟨fun pins s σ H V I ⟨i, Cc, e1, e2, e3, e6, e7, e4, e5, q⟩ => ?_⟩
  subst e1
  exact (pss_one (ps_ret (x_suite hp c ⟨hz, hf, e2, e3, e6, e7, e4, e5⟩ h))).run pins s σ H V I q
def trH (p : Tr) (C : TC) : List ExceptHandler → Option (List (Str × Nat × SE))
  | [] => some []
  | .ExceptHandler (some (.Name c _)) (some n) [.Return (some e) _] _ :: r =>
    if (plainB c && glK (C.sc.names.lookup c) && locOnly (C.sc.names.lookup n) && (C.T.exc c).isSome) = true then
      (ixOf C.N n).bind fun i => (trXT p C.hot e).bind fun te => (trH p C r).map ((c, i, te) :: ·)
    else none
  | _ => none
def hdV (G : GC) (c : Str) : Value := match G.ca c with
  | some a => .ref a
  | none => .none
def hdL (G : GC) (T : Tab) (X : Cx) (l : List (Str × Nat × SE)) : List (Value × Nat × Suite) := l.map fun h => (hdV G h.1, h.2.1, tsH G T X h.2.2)
theorem trH_ok {p : Tr} (hp : Snd p) (c : StOk G C X W) : ∀ {hds : List ExceptHandler} {l : List (Str × Nat × SE)}, trH p C hds = some l → HdOk X hds (hdL G C.T X l) ∧ ∀ h ∈ l, (C.T.exc h.1).isSome = true
  | [], l, h => by
    cases h
    exact ⟨.nil, fun _ z => by cases z⟩
  | hd :: hds, l, h => by
    unfold trH at h
    split at h
    · cases ‹_ :: _ = []›
    · rename_i heq
      cases heq
      split at h
      · rename_i q
        simp only [Bool.and_eq_true] at q
        obtain ⟨⟨⟨q1, q2⟩, q3⟩, q4⟩ := q
        obtain ⟨i, hi, h⟩ := Option.bind_eq_some_iff.mp h
        obtain ⟨te, ht, h⟩ := Option.bind_eq_some_iff.mp h
        obtain ⟨l', hl, rfl⟩ := Option.map_eq_some_iff.mp h
        obtain ⟨ih1, ih2⟩ := trH_ok hp c hl
        rename_i cn _ n e rp _ _ _
        obtain ⟨ns, hns⟩ := Option.isSome_iff_exists.mp q4
        obtain ⟨Ca, gC, gca, T, xf, _⟩ := (c.exc cn ns hns).ex
        refine ⟨?_, fun h hm => ?_⟩
        · refine HdOk.cons (c := hdV G cn) (ts := tsH G C.T X te) ⟨gl_of c.toCtxOk q2, (plain_of q1).1, .inl ?_⟩ (by rw [c.N]; exact ixOf_get hi) ?_ (fun a oe cls d pn hz hf => ss_suite hp c ht a oe cls d pn hz hf) ih1
          · unfold hdV; rw [gca]; exact gC
          · show X.env.scope.names.lookup n = some .local
            rw [c.sc]
            unfold locOnly at q3
            split at q3
            · assumption
            · cases q3
        · rcases List.mem_cons.mp hm with rfl | hm
          · exact q4
          · exact ih2 h hm
      · cases h
    · cases h
theorem hands_ok (c : StOk G C X W) {V : Ends} {D : DEnds} (k : EndsOk G W H as D V) : ∀ {l : List (Str × Nat × SE)} {x : Exn} {cls : Value} {d : Option Addr} {σ' : St} {H' : Hp} {as' : List Addr} {env' : Env} {S' : Store}, (∀ h ∈ l, (C.T.exc h.1).isSome = true) →
    Ext H as H' as' → RepE G H' as' env' σ' → RepS G H' as' S' → RepX G H' as' x cls d → sHands C.T D l x env' S' → wHd X.K W V (hdL G C.T X l) cls d σ' H'
  | [], x, cls, d, σ', H', as', env', S', hl, e, he, hs, hx, q => k.ex x cls d σ' H' as' env' S' e he hs hx q
  | (cn, i, te) :: l, x, cls, d, σ', H', as', env', S', hl, e, he, hs, hx, q => by
    obtain ⟨q1, q2⟩ := q
    obtain ⟨C1, dd, vs, g1, rfl, rfl, hd, rf⟩ := id hx
    have hcn : (C.T.exc cn).isSome = true := hl _ List.mem_cons_self
    obtain ⟨ns, hns⟩ := Option.isSome_iff_exists.mp hcn
    obtain ⟨Ca, gC, gca, T, xf, _⟩ := (c.exc cn ns hns).ex
    obtain ⟨C1', gC', gca', T', xf', no'⟩ := (c.exc _ _ q1).ex
    rw [g1] at gca'
    cases gca'
    refine ⟨C.T.isa x.cls cn, ?_, fun hb a ha => ?_, fun hb => ?_⟩
    · show PySem.W.exmOne X.K (.ref C1) (hdV G cn) = _
      unfold hdV
      rw [gca]
      exact c.isa x.cls cn C1 Ca g1 gca (by rw [q1]; rfl) hcn
    · rw [if_pos hb] at q2
      refine ⟨⟨a, dd, x.cls, x.fs.map Prod.fst⟩, C1, rfl, rfl, rfl, g1, by rw [q1]; rfl, xf', no', ?_⟩
      · have he2 : RepE (G.at ⟨a, dd, x.cls, x.fs.map Prod.fst⟩) H' as' (env'.set i (some (.exc x.cls x.fs))) (σ'.set i (some (.ref a))) := by
          refine repE_set ⟨he.len, fun j d0 hj => ?_⟩ ⟨_, vs, rfl, ⟨rfl, rfl, rfl⟩, hd, repf_in c.exn _ _ _ rf⟩
          obtain ⟨v, h1, h2⟩ := he.get j d0 hj
          exact ⟨v, h1, rep_in c.exn _ d0 v h2⟩
        refine ⟨_, S', as', noX, _, he2, hs.inn c.exn _, fun _ _ _ _ _ _ _ _ _ z => z.elim, q2, fun v H2 as2 d2 S2 e2 hs2 r2 ⟨⟨q3, q4⟩, q5⟩ => ?_⟩
        exact k.rt v H2 as2 d2 S2 (e.trans e2) (RepS.outN c.exn hs hs2 q3) (rep_out _ d2 v q4 r2) q5
    · rw [if_neg (by rw [hb]; exact Bool.false_ne_true)] at q2
      exact hands_ok c k (fun h hm => hl h (List.mem_cons_of_mem _ hm)) e he hs hx q2
theorem StOk.tr (c : StOk G C X W) {W' : WX} {pn : List (Addr × Obj)} {xe : Value → Shared → Prop} (tk : Takes (X.tr pn xe) W') (po : PassesOwn (model X.prog X.w) X.A X.env xe) : StOk G C (X.tr pn xe) W' where
  K := c.K
  N := c.N
  sc := c.sc
  nd := c.nd
  kind := c.kind
  calm := c.calm
  room := c.room
  units := c.units
  guards := c.guards
  tg := c.tg
  bi := c.bi
  glob := c.glob
  sp := fun hc f d e => ⟨(c.sp hc f d e).ex⟩
  tk := tk
  po := po
  hc := c.hc
  wr := c.wr
  stk := c.stk
  frm := c.frm
  exn := c.exn
  sup := c.sup
  exc := fun x ns e => ⟨(c.exc x ns e).ex⟩
  isa := c.isa
  isi := c.isi
  kin := fun f ab e => ⟨(c.kin f ab e).ex⟩
theorem ls_try {body : List Stmt} {h₀ : ExceptHandler} {hds : List ExceptHandler} {l : List (Str × Nat × SE)} {pos : Pos} {tb : SS} {p : Tr} (hp : Snd p) (c : StOk G C X W) (hb : ∀ {X' : Cx} {W' : WX}, StOk G C X' W' → PSs X' body (LS G W' tb)) (hh : trH p C (h₀ :: hds) = some l) :
    PS X (.Try body (h₀ :: hds) [] [] pos) (LS G W (sTry C.T tb l)) := by
  obtain ⟨h1, h2⟩ := trH_ok hp c hh
  refine PS.le (ps_try_hd (tb := fun W' => LS G W' tb) c.stk c.frm (by rw [c.N]; exact c.nd) c.tk (fun W' pn xe tk po => hb (c.tr tk po)) h1) fun V σ H env S as D he hs ht k => ?_
  refine ⟨env, S, as, _, he, hs, ht, k.nx, k.rt, fun x cls d σ' H' as' env' S' e he' hs' hx q => ?_, k.bk, k.ct⟩
  exact hands_ok c k h2 e he' hs' hx q
end
end SD

-- SD19
set_option Elab.async false
set_option linter.all false
set_option maxRecDepth 100000
set_option maxHeartbeats 2000000
namespace SD
open PySem L2
/-! ### the translation of statements -/
def asgPlain (p : Tr) (C : TC) (tg e : Expr) : Option SS := if plainE tg = true then (p.e C e).bind fun t => (p.g C tg).map (sAsg t) else none
def asgSw (p : Tr) (C : TC) (tg e : Expr) : Option SS := match tg, e with
  | .Tuple [.Name x px, .Name y py] kt pt, .Tuple [a, b] k2 pt2 =>
    if (plainE a && plainE b && locOnly (C.sc.names.lookup x) && locOnly (C.sc.names.lookup y) && decide (swSt C.sc (.Tuple [.Name x px, .Name y py] kt pt) (.Tuple [a, b] k2 pt2) = some (some [x, y]))) = true then
      (p.e C a).bind fun ta => (p.e C b).bind fun tb => (ixOf C.N x).bind fun i => (ixOf C.N y).bind fun j => if i = j then none else some (sAsg (eTup [ta, tb]) (gTup [gVar i, gVar j]))
    else none
  | .Tuple [.Name x px, .Name y py, .Name z pz] kt pt, .Tuple [a, b, d] k2 pt2 =>
    if (plainE a && plainE b && plainE d && locOnly (C.sc.names.lookup x) && locOnly (C.sc.names.lookup y) && locOnly (C.sc.names.lookup z) && decide (swSt C.sc (.Tuple [.Name x px, .Name y py, .Name z pz] kt pt) (.Tuple [a, b, d] k2 pt2) = some (some [x, y, z]))) = true then
      (p.e C a).bind fun ta => (p.e C b).bind fun tb => (p.e C d).bind fun td => (ixOf C.N x).bind fun i => (ixOf C.N y).bind fun j => (ixOf C.N z).bind fun l =>
        if i = j ∨ i = l ∨ j = l then none else some (sAsg (eTup [ta, tb, td]) (gTup [gVar i, gVar j, gVar l]))
    else none
  | _, _ => none
def stAsg (p : Tr) (C : TC) (tg e : Expr) : Option SS := match e with
  | .ListComp elt gens scope cpos => if lcSw C.sc tg scope cpos = true then
      match tg with
      | .Name y _ => if locOnly (C.sc.names.lookup y) = true then (ixOf C.N y).bind fun i => (trComp p C elt gens scope).map fun c => sAsg (eComp c.it c.own c.g c.t c.e) (gVar i) else none
      | _ => none
    else asgPlain p C tg (.ListComp elt gens scope cpos)
  | e => if isComp e = true then none else match swSt C.sc tg e with
    | none => none
    | some none => asgPlain p C tg e
    | some (some _) => asgSw p C tg e
def augOf : Operator → Option (Int → Int → Int)
  | .Add => some fun i j => i + j
  | .Sub => some fun i j => i - j
  | _ => none
def fldN (n : Nat) : Option (List Str) → Bool
  | some l => decide (l.length = n)
  | none => false
def stS (p : Tr) (C : TC) (f : List Stmt → Option SS) : Stmt → Option SS
  | .Expr (.Constant (.str _) _ _) _ => some sNext
  | .Expr e _ => if isComp e = true then none else (p.e C e).map sExpr
  | .Return (some e) _ => (p.e C e).map sRet
  | .Return none _ => some sRetN
  | .Pass _ => some sNext
  | .Break _ => some sBreak
  | .Continue _ => some sCont
  | .If c a b _ => (p.t C c).bind fun t => (f a).bind fun ta => (f b).map (sIf t ta)
  | .While c b [] _ => (p.t C c).bind fun t => (f b).map (sWhile t)
  | .For tg it b [] _ => if isSet it = true then none else (p.i C tg it).bind fun ti => (p.g C tg).bind fun g => (f b).map (sFor ti g)
  | .Assign [tg] e _ => stAsg p C tg e
  | .AugAssign (.Name x _) op e _ => if tgB C x = true then (augOf op).bind fun o => (ixOf C.N x).bind fun i => (p.e C e).map (augD (iop o) i) else none
  | .Raise (some (.Call (.Name x _) [a] [] _)) none _ => if (plainB x && glK (C.sc.names.lookup x) && plainE a && fldN 1 (C.T.exc x)) = true then (p.e C a).map fun ta => sRaise C.T x [ta] else none
  | .Raise (some (.Call (.Name x _) [a, b] [] _)) none _ => if (plainB x && glK (C.sc.names.lookup x) && plainE a && plainE b && fldN 2 (C.T.exc x)) = true then (p.e C a).bind fun ta => (p.e C b).map fun tb => sRaise C.T x [ta, tb] else none
  | .Try b (h :: hs) [] [] _ => (f b).bind fun tb => (trH p C (h :: hs)).map fun l => sTry C.T tb l
  | _ => none
def trM (f : α → Option β) : List α → Option (List β)
  | [] => some []
  | e :: es => (f e).bind fun t => (trM f es).map (t :: ·)
def trS (p : Tr) (C : TC) : Nat → Stmt → Option SS
  | 0, _ => none
  | n + 1, st => stS p C (fun b => (trM (trS p C n) b).map sSeq) st
section
variable {G : GC} {C : TC} {X : Cx} {W : WX} {H : Hp} {as : List Addr} {S : Store}
theorem blk_ok {f : Stmt → Option SS} (hf : ∀ {st : Stmt} {t : SS}, f st = some t → PS X st (LS G W t)) : ∀ {b : List Stmt} {ts : List SS}, trM f b = some ts → PSs X b (LS G W (sSeq ts))
  | [], ts, h => by cases h; exact lss_nil
  | st :: b, ts, h => by
    unfold trM at h
    obtain ⟨t, h1, h2⟩ := Option.bind_eq_some_iff.mp h
    obtain ⟨ts', h3, rfl⟩ := Option.map_eq_some_iff.mp h2
    exact lss_cons (hf h1) (blk_ok hf h3)
theorem sw_sole {e : Expr} (h : isComp e = false) (tg : Expr) (l : Nat) (env : PySem.Env) : swapsWithSole [tg] e l env = pure false := sw_plain h (some tg) l env
theorem locOnly_iff {k : Option NameKind} (h : locOnly k = true) : k = some .local := by
  unfold locOnly at h
  split at h
  · rfl
  · cases h
theorem x_asgPlain {p : Tr} (hp : Snd p) (c : StOk G C X W) {tg e : Expr} {t : SS} {pos : Pos} (hs : swapsWithSole [tg] e pos.line X.env = pure false) (hw : swappedStores [tg] e X.env = pure none) (h : asgPlain p C tg e = some t) : PS X (.Assign [tg] e pos) (LS G W t) := by
  unfold asgPlain at h
  split at h
  · rename_i hpe
    obtain ⟨te, h1, h⟩ := Option.bind_eq_some_iff.mp h
    obtain ⟨g, h2, rfl⟩ := Option.map_eq_some_iff.mp h
    exact ls_asg (hp.e c.toCtxOk h1) (hp.g c.toCtxOk h2) hs hw (ev_one hpe _)
  · cases h
theorem x_asgSw {p : Tr} (hp : Snd p) (c : StOk G C X W) {tg e : Expr} {t : SS} {pos : Pos} (h : asgSw p C tg e = some t) : PS X (.Assign [tg] e pos) (LS G W t) := by
  unfold asgSw at h
  split at h
  · split at h
    · rename_i q
      simp only [Bool.and_eq_true] at q
      obtain ⟨⟨⟨⟨q1, q2⟩, q3⟩, q4⟩, q5⟩ := q
      obtain ⟨ta, h1, h⟩ := Option.bind_eq_some_iff.mp h
      obtain ⟨tb, h2, h⟩ := Option.bind_eq_some_iff.mp h
      obtain ⟨i, h3, h⟩ := Option.bind_eq_some_iff.mp h
      obtain ⟨j, h4, h⟩ := Option.bind_eq_some_iff.mp h
      split at h
      · cases h
      · rename_i hij
        cases h
        exact ls_par2 c.toCtxOk c.hc h3 h4 hij (locOnly_iff q3) (locOnly_iff q4) (s_list (f := p.e C) (hp.e c.toCtxOk) (by unfold plainEs plainEs plainEs; rw [q1, q2]; rfl) (by unfold trL trL trL; rw [h1, h2]; rfl)) (of_decide_eq_true q5)
    · cases h
  · split at h
    · rename_i q
      simp only [Bool.and_eq_true] at q
      obtain ⟨⟨⟨⟨⟨⟨q1, q2⟩, q3⟩, q4⟩, q5⟩, q6⟩, q7⟩ := q
      obtain ⟨ta, h1, h⟩ := Option.bind_eq_some_iff.mp h
      obtain ⟨tb, h2, h⟩ := Option.bind_eq_some_iff.mp h
      obtain ⟨td, h2', h⟩ := Option.bind_eq_some_iff.mp h
      obtain ⟨i, h3, h⟩ := Option.bind_eq_some_iff.mp h
      obtain ⟨j, h4, h⟩ := Option.bind_eq_some_iff.mp h
      obtain ⟨l, h5, h⟩ := Option.bind_eq_some_iff.mp h
      split at h
      · cases h
      · rename_i hij
        cases h
        exact ls_par3 c.toCtxOk c.hc h3 h4 h5 (fun z => hij (.inl z)) (fun z => hij (.inr (.inl z))) (fun z => hij (.inr (.inr z))) (locOnly_iff q4) (locOnly_iff q5) (locOnly_iff q6)
          (s_list (f := p.e C) (hp.e c.toCtxOk) (by unfold plainEs plainEs plainEs plainEs; rw [q1, q2, q3]; rfl) (by unfold trL trL trL trL; rw [h1, h2, h2']; rfl)) (of_decide_eq_true q7)
    · cases h
  · cases h
theorem x_asg {p : Tr} (hp : Snd p) (c : StOk G C X W) {tg e : Expr} {t : SS} {pos : Pos} (h : stAsg p C tg e = some t) : PS X (.Assign [tg] e pos) (LS G W t) := by
  unfold stAsg at h
  split at h
  · split at h
    · rename_i hsw
      split at h
      · split at h
        · rename_i hl
          obtain ⟨i, hi, h⟩ := Option.bind_eq_some_iff.mp h
          obtain ⟨k, hk, rfl⟩ := Option.map_eq_some_iff.mp h
          unfold trComp at hk
          split at hk
          · rename_i q
            split at hk
            · rename_i q
              simp only [Bool.and_eq_true, decide_eq_true_eq, Bool.not_eq_true'] at q
              obtain ⟨⟨⟨q1, q2⟩, q3⟩, q4⟩ := q
              subst q4
              obtain ⟨si, e1, hk⟩ := Option.bind_eq_some_iff.mp hk
              obtain ⟨sg, e2, hk⟩ := Option.bind_eq_some_iff.mp hk
              obtain ⟨st, e3, hk⟩ := Option.bind_eq_some_iff.mp hk
              obtain ⟨se, e4, rfl⟩ := Option.map_eq_some_iff.mp hk
              refine ls_setLc c.toCtxOk q1 hi (locOnly_iff hl) hsw q3 q2 (hp.i c.toCtxOk e1) (fun c' => hp.g c' e2) (fun c' => ?_) (fun c' => hp.e c' e4)
              split at e3
              · cases e3
                refine ⟨fun pins s σ H Q I h => ?_⟩
                refine pts_nil.run pins s σ H Q I ?_
                obtain ⟨env, S, as, E, Qd, he, hs, hx, ht, k⟩ := h
                exact k true H as S (.refl _ _) hs ht
              · exact pts_one (hp.t c' e3)
              · cases e3
            · cases hk
          · cases hk
        · cases h
      · cases h
    · rename_i hsw
      have hsw' := Bool.eq_false_iff.mpr hsw
      refine x_asgPlain hp c ?_ ?_ h
      · refine (show swapsWithSole [tg] _ _ _ = swapsWith _ (some tg) _ _ from rfl).trans ?_
        rw [lcSw_ok c.kind, c.sc, hsw']
      · exact sw_ok c.kind (by unfold swSt parts2; cases tg <;> rfl)
  · split at h
    · cases h
    · rename_i hcmp
      split at h
      · cases h
      · rename_i hw
        exact x_asgPlain hp c (sw_sole (by simpa using hcmp) _ _ _) (sw_ok c.kind (by rw [c.sc]; exact hw)) h
      · exact x_asgSw hp c h
theorem fld1 {o : Option (List Str)} (h : fldN 1 o = true) : ∃ f, o = some [f] := by
  unfold fldN at h
  split at h
  · rename_i l
    have h := of_decide_eq_true h
    match l, h with
    | [f], _ => exact ⟨f, rfl⟩
  · cases h
theorem fld2 {o : Option (List Str)} (h : fldN 2 o = true) : ∃ f g, o = some [f, g] := by
  unfold fldN at h
  split at h
  · rename_i l
    have h := of_decide_eq_true h
    match l, h with
    | [f, g], _ => exact ⟨f, g, rfl⟩
  · cases h
theorem x_st {p : Tr} (hp : Snd p) {f : List Stmt → Option SS} (hf : ∀ {X : Cx} {W : WX} {b : List Stmt} {t : SS}, StOk G C X W → f b = some t → PSs X b (LS G W t)) (c : StOk G C X W) {st : Stmt} {t : SS} (h : stS p C f st = some t) : PS X st (LS G W t) := by
  unfold stS at h
  split at h
  · cases h; exact ls_next ps_doc
  · split at h
    · cases h
    · rename_i hcmp
      obtain ⟨te, h1, rfl⟩ := Option.map_eq_some_iff.mp h
      exact ls_expr (hp.e c.toCtxOk h1) (sw_plain (by simpa using hcmp) _ _ _)
  · obtain ⟨te, h1, rfl⟩ := Option.map_eq_some_iff.mp h
    exact ls_ret (hp.e c.toCtxOk h1)
  · cases h; exact ls_retN
  · cases h; exact ls_next ps_pass
  · cases h; exact ls_break
  · cases h; exact ls_cont
  · obtain ⟨tc, h1, h⟩ := Option.bind_eq_some_iff.mp h
    obtain ⟨ta, h2, h⟩ := Option.bind_eq_some_iff.mp h
    obtain ⟨tb, h3, rfl⟩ := Option.map_eq_some_iff.mp h
    exact ls_if (hp.t c.toCtxOk h1) (hf c h2) (hf c h3)
  · obtain ⟨tc, h1, h⟩ := Option.bind_eq_some_iff.mp h
    obtain ⟨tb, h3, rfl⟩ := Option.map_eq_some_iff.mp h
    exact ls_while c.toCtxOk (hp.t c.toCtxOk h1) (hf c h3)
  · split at h
    · cases h
    · rename_i hset
      obtain ⟨ti, h1, h⟩ := Option.bind_eq_some_iff.mp h
      obtain ⟨g, h2, h⟩ := Option.bind_eq_some_iff.mp h
      obtain ⟨tb, h3, rfl⟩ := Option.map_eq_some_iff.mp h
      exact ls_for c.toCtxOk c.hc (by simpa using hset) (hp.i c.toCtxOk h1) (hp.g c.toCtxOk h2) (hf c h3)
  · exact x_asg hp c h
  · split at h
    · rename_i ht
      obtain ⟨o, h1, h⟩ := Option.bind_eq_some_iff.mp h
      obtain ⟨i, h2, h⟩ := Option.bind_eq_some_iff.mp h
      obtain ⟨te, h3, rfl⟩ := Option.map_eq_some_iff.mp h
      refine ls_aug c.toCtxOk ht h2 (hp.e c.toCtxOk h3) ?_
      unfold augOf at h1
      split at h1 <;> cases h1
      · exact ip_add
      · exact ip_sub
    · cases h
  · split at h
    · rename_i q
      simp only [Bool.and_eq_true] at q
      obtain ⟨⟨⟨q1, q2⟩, q3⟩, q4⟩ := q
      obtain ⟨ta, h1, rfl⟩ := Option.map_eq_some_iff.mp h
      obtain ⟨f, hns⟩ := fld1 q4
      exact ls_raise c q1 q2 hns q3 (s_list (f := p.e C) (hp.e c.toCtxOk) (by unfold plainEs plainEs; rw [q3]; rfl) (by unfold trL trL; rw [h1]; rfl))
    · cases h
  · split at h
    · rename_i q
      simp only [Bool.and_eq_true] at q
      obtain ⟨⟨⟨⟨q1, q2⟩, q3⟩, q5⟩, q4⟩ := q
      obtain ⟨ta, h1, h⟩ := Option.bind_eq_some_iff.mp h
      obtain ⟨tb, h2, rfl⟩ := Option.map_eq_some_iff.mp h
      obtain ⟨f, g, hns⟩ := fld2 q4
      exact ls_raise2 c q1 q2 hns q3 q5 (s_list (f := p.e C) (hp.e c.toCtxOk) (by unfold plainEs plainEs plainEs; rw [q3, q5]; rfl) (by unfold trL trL trL; rw [h1, h2]; rfl))
    · cases h
  · obtain ⟨tb, h1, h⟩ := Option.bind_eq_some_iff.mp h
    obtain ⟨l, h2, rfl⟩ := Option.map_eq_some_iff.mp h
    exact ls_try hp c (fun c' => hf c' h1) h2
  · cases h
theorem x_s {p : Tr} (hp : Snd p) : ∀ (n : Nat) {X : Cx} {W : WX} {st : Stmt} {t : SS}, StOk G C X W → trS p C n st = some t → PS X st (LS G W t)
  | 0, _, _, _, _, _, h => by cases h
  | n + 1, X, W, st, t, c, h => by
    refine x_st hp (fun {X W b t} c h => ?_) c h
    obtain ⟨ts, h1, rfl⟩ := Option.map_eq_some_iff.mp h
    exact blk_ok (fun q => x_s hp n c q) h1
end
/-- a def's body -/
def trBody (p : Tr) (C : TC) (n : Nat) (b : List Stmt) : Option SS := (trM (trS p C n) b).map sSeq
theorem x_body {G : GC} {C : TC} {X : Cx} {W : WX} {p : Tr} (hp : Snd p) {n : Nat} {b : List Stmt} {t : SS} (c : StOk G C X W) (h : trBody p C n b = some t) : PSs X b (LS G W t) := by
  obtain ⟨ts, h1, rfl⟩ := Option.map_eq_some_iff.mp h
  exact blk_ok (fun q => x_s hp n c q) h1
end SD

-- SD20
set_option Elab.async false
set_option linter.all false
set_option maxRecDepth 100000
set_option maxHeartbeats 2000000
namespace SD
open PySem L2 PyProof.Rows
/-! ### the end of a def: cells that nothing names any more are let go -/
mutual
def clD (n : Nat) : D → Bool
  | .lref k => decide (k < n)
  | .tup ds => clDs n ds
  | .exc _ _ => false
  | _ => true
def clDs (n : Nat) : List D → Bool
  | [] => true
  | d :: ds => clD n d && clDs n ds
end
def clC (n : Nat) : Cell → Bool
  | .lst ds => clDs n ds
  | .dct _ => false
def clF (n : Nat) : List (Str × D) → Bool
  | [] => true
  | (_, d) :: fs => clD n d && clF n fs
def cutS (S S' S1 : Store) : Prop := S.length ≤ S1.length ∧ (∃ g, S' = S1 ++ g) ∧ ∀ (k : Nat) (c : Cell), S1[k]? = some c → S[k]? = some c ∨ clC S1.length c = true
def trQ (S : Store) (Q : QV) : QV := fun r S' => ∃ S1, cutS S S' S1 ∧ clD S1.length r = true ∧ Q r S1
def trE (S : Store) (E : QX) : QX := fun x S' => ∃ S1, cutS S S' S1 ∧ clF S1.length x.fs = true ∧ E x S1
def startD (N : List Str) (ds : List D) : Env := ds.map some ++ List.replicate (N.length - ds.length) none
section
variable {G : GC} {H : Hp} {as as' : List Addr} {S S' S1 : Store}
mutual
theorem rep_cl : ∀ (d : D) (v : V), G.ex = none → Rep G H as d v → clD as.length d = true
  | .non, _, _, h => rfl
  | .bl _, _, _, h => rfl
  | .int _, _, _, h => rfl
  | .str _, _, _, h => rfl
  | .tup ds, _, e, ⟨p, vs, h1, h2, h3⟩ => reps_cl ds vs e h3
  | .lref k, _, _, ⟨a, h1, h2⟩ => decide_eq_true (List.getElem?_eq_some_iff.mp h2).1
  | .fn n, _, _, h => rfl
  | .scr ns, _, _, h => rfl
  | .exc c fs, _, e, ⟨j, vs, h1, h2, h3, h4⟩ => by rw [e] at h2; cases h2.1
theorem reps_cl : ∀ (ds : List D) (vs : List V), G.ex = none → Reps G H as ds vs → clDs as.length ds = true
  | [], _, _, _ => rfl
  | d :: ds, _, e, ⟨v, q, h1, h2, h3⟩ => by
    show (clD as.length d && clDs as.length ds) = true
    rw [rep_cl d v e h2, reps_cl ds q e h3]
    rfl
end
mutual
theorem cl_mono {m n : Nat} (hn : m ≤ n) : ∀ (d : D), clD m d = true → clD n d = true
  | .non, _ => rfl
  | .bl _, _ => rfl
  | .int _, _ => rfl
  | .str _, _ => rfl
  | .tup ds, h => cls_mono hn ds h
  | .lref k, h => decide_eq_true (Nat.lt_of_lt_of_le (of_decide_eq_true (show decide (k < m) = true from h)) hn)
  | .fn _, _ => rfl
  | .scr _, _ => rfl
  | .exc _ _, h => by cases h
theorem cls_mono {m n : Nat} (hn : m ≤ n) : ∀ (ds : List D), clDs m ds = true → clDs n ds = true
  | [], _ => rfl
  | d :: ds, h => by
    have h' : (clD m d && clDs m ds) = true := h
    rw [Bool.and_eq_true] at h'
    show (clD n d && clDs n ds) = true
    rw [cl_mono hn d h'.1, cls_mono hn ds h'.2]
    rfl
end
mutual
theorem rep_take {n : Nat} : ∀ (d : D) (v : V), clD n d = true → Rep G H as d v → Rep G H (as.take n) d v
  | .non, _, _, h => h
  | .bl _, _, _, h => h
  | .int _, _, _, h => h
  | .str _, _, _, h => h
  | .tup ds, _, c, ⟨p, vs, h1, h2, h3⟩ => ⟨p, vs, h1, h2, reps_take ds vs c h3⟩
  | .lref k, _, c, ⟨a, h1, h2⟩ => ⟨a, h1, by rw [List.getElem?_take_of_lt (of_decide_eq_true (show decide (k < n) = true from c))]; exact h2⟩
  | .fn n, _, _, h => h
  | .scr ns, _, _, h => h
  | .exc c fs, _, c0, _ => by cases c0
theorem reps_take {n : Nat} : ∀ (ds : List D) (vs : List V), clDs n ds = true → Reps G H as ds vs → Reps G H (as.take n) ds vs
  | [], _, _, h => h
  | d :: ds, _, c, ⟨v, q, h1, h2, h3⟩ => by
    have c' : (clD n d && clDs n ds) = true := c
    rw [Bool.and_eq_true] at c'
    exact ⟨v, q, h1, rep_take d v c'.1 h2, reps_take ds q c'.2 h3⟩
end
theorem repf_take {n : Nat} : ∀ (fs : List (Str × D)) (vs : List (Str × V)), clF n fs = true → RepF G H as fs vs → RepF G H (as.take n) fs vs
  | [], _, _, h => h
  | (x, d) :: ds, _, c, ⟨v, q, h1, h2, h3⟩ => by
    have c' : (clD n d && clF n ds) = true := c
    rw [Bool.and_eq_true] at c'
    exact ⟨v, q, h1, rep_take d v c'.1 h2, repf_take ds q c'.2 h3⟩
theorem Ext.take {H' : Hp} {n : Nat} (e : Ext H as H' as') (h : as.length ≤ n) : Ext H as H' (as'.take n) := by
  refine ⟨?_, e.keep, fun a m k => e.fresh a (List.mem_of_mem_take m) k⟩
  obtain ⟨r, rfl⟩ := e.pre
  refine ⟨r.take (n - as.length), ?_⟩
  rw [List.take_append, List.take_of_length_le h]
theorem RepS.cut {H0 : Hp} (hx : G.ex = none) (r0 : RepS G H0 as S) (r : RepS G H as' S') (c : cutS S S' S1) : RepS G H (as'.take S1.length) S1 := by
  obtain ⟨c1, ⟨g, rfl⟩, c3⟩ := c
  have hl : S1.length ≤ as'.length := by rw [r.len, List.length_append]; omega
  refine ⟨by rw [List.length_take]; omega, r.nd.sublist (List.take_sublist _ _), fun k a c h1 h2 => ?_⟩
  have hk : k < S1.length := (List.getElem?_eq_some_iff.mp h2).1
  rw [List.getElem?_take_of_lt hk] at h1
  have q := r.cell k a c h1 (by rw [List.getElem?_append_left hk]; exact h2)
  cases c with
  | dct _ => exact q
  | lst ds =>
    obtain ⟨vs, q1, q2⟩ := q
    refine ⟨vs, q1, reps_take ds vs ?_ q2⟩
    rcases c3 k _ h2 with z | z
    · have hk0 : k < as.length := by rw [r0.len]; exact (List.getElem?_eq_some_iff.mp z).1
      obtain ⟨vs0, _, q0⟩ := r0.cell k as[k] _ (List.getElem?_eq_getElem hk0) z
      exact cls_mono (by rw [r0.len]; exact c1) ds (reps_cl ds vs0 hx q0)
    · exact z
theorem repE_start {N : List Str} : ∀ {ds : List D} {vs : List V}, Reps G H as ds vs → RepE G H as (startD N ds) (L2.start N vs) := by
  intro ds vs r
  have l := r.length
  refine ⟨by unfold startD L2.start; simp [l], fun i d h => ?_⟩
  unfold startD at h
  unfold L2.start
  by_cases hi : i < ds.length
  · rw [List.getElem?_append_left (by simpa using hi), List.getElem?_map] at h
    rw [List.getElem?_append_left (by simpa [l] using hi), List.getElem?_map]
    cases e : ds[i]? with
    | none => rw [e] at h; cases h
    | some d' =>
      rw [e] at h
      cases h
      obtain ⟨v, h1, h2⟩ := r.get e
      exact ⟨v, by rw [h1]; rfl, h2⟩
  · rw [List.getElem?_append_right (by simpa using hi), List.getElem?_replicate] at h
    split at h <;> cases h
end
/-! ### a def -/
/-- what a text may lean on at level k -/
structure Says (G : GC) (T : Tab) (P : Program) (w : World) (K : PySem.W.Frag) (mg : Str → Option Value) (base : Heap) (k : Nat) : Prop where
  hK : K = G.K
  exn : G.ex = none
  bi : ∀ x, isBi x = true → mg x = none
  glob : ∀ x d, T.glob x = some d → ∃ u v, mg x = some u ∧ RelV v u ∧ ∀ H as, Rep G H as d v
  sp : ∀ f d, T.sp f = some d → ∃ (a : Addr) (fd : FuncData) (ps : List Str), mg f = some (.ref a) ∧ G.fa f = some a ∧ PySem.W.keepIn K (.ref a) = true ∧ Binds K fd ps [] ∧ FnG P w K mg base k a fd ps (LSp G d.n d.sp) ∧ ps.length = d.n
  exc : ∀ x ns, T.exc x = some ns → ∃ C : Addr, mg x = some (.ref C) ∧ G.ca x = some C ∧ ErrK P K C ns ∧ ExcC K C ∧ ∀ f ∈ ns, PySem.W.findIn K (.ref C) f = some none
  isa : ∀ x y C1 C2, G.ca x = some C1 → G.ca y = some C2 → (T.exc x).isSome = true → (T.exc y).isSome = true → PySem.W.exmOne K (.ref C1) (.ref C2) = some (T.isa x y)
  isi : ∀ x y C1 v, G.ca x = some C1 → (T.exc x).isSome = true → yVal G T y = some v → PySem.W.kitOne K (.ref C1) v = some (T.isa x y)
  kin : ∀ f ab, T.kin f = some ab → ∃ (a : Addr) (fd : FuncData) (ps : List Str), mg f = some (.ref a) ∧ PySem.W.keepIn K (.ref a) = true ∧ Binds K fd ps [] ∧ ps.length = 1 ∧ FnP G T P w K mg base k a fd ps ab
theorem FnG.mono {P : Program} {w : World} {K : PySem.W.Frag} {mg : Str → Option Value} {base : Heap} {j k : Nat} {f : Addr} {fd : FuncData} {ps : List Str} {sp : Sp} (F : FnG P w K mg base j f fd ps sp) (h : j ≤ k) : FnG P w K mg base k f fd ps sp :=
  ⟨F.len, fun A outer s H args us vs Q E hr => F.run A outer s H args us vs Q E (hr.mono h)⟩
theorem stOk_def {G : GC} {T : Tab} {P : Program} {w : World} {K : PySem.W.Frag} {mg : Str → Option Value} {base : Heap} {k : Nat} {N ps : List Str} {qual : Str} {scope : Scope} {f : Addr} {cd : Value} {A : Around} {outer : List PySem.Env} {s : Shared} {H : Hp} {E : XK}
    (L : Says G T P w K mg base k) (S : FnScope N ps scope) (hr : Room k (A.deeper (envOfC qual scope s.heap.objs.size f cd))) (hg : A.guards = some []) :
    StOk G ⟨N, scope, none, true, T⟩ (cxOf (L2.CX P w) P w K mg base N qual scope f cd A outer s H E) (fun cls d _ H => E cls d H) where
  K := L.hK
  N := rfl
  sc := rfl
  nd := S.nd
  kind := S.kind
  calm := fun _ => rfl
  room := fun _ => hr.mono (Nat.zero_le _)
  units := by have := hr.un; show (A.deeper _).units + 65 < cLine; omega
  guards := hg
  tg := fun x hx => ⟨locK_iff (show locK (scope.names.lookup x) = true from hx), .inl rfl⟩
  bi := L.bi
  glob := L.glob
  sp := fun _ f d e => by
    obtain ⟨a, fd, ps, h1, h2, h3, h4, h5, h6⟩ := L.sp f d e
    exact ⟨k, a, fd, ps, h1, h2, h3, h4, h5, hr, h6⟩
  tk := takes_of (X := cxOf (L2.CX P w) P w K mg base N qual scope f cd A outer s H E) rfl rfl rfl rfl
  po := passes_of (X := cxOf (L2.CX P w) P w K mg base N qual scope f cd A outer s H E) rfl
  hc := rfl
  wr := rfl
  stk := rfl
  frm := rfl
  exn := L.exn
  sup := L.bi _ (by decide +kernel)
  exc := fun x ns e => ⟨L.exc x ns e⟩
  isa := L.isa
  isi := L.isi
  kin := fun f ab e => by
    obtain ⟨a, fd, ps, h1, h2, h3, h4, h5⟩ := L.kin f ab e
    exact ⟨k, a, fd, ps, h1, h2, h3, h4, hr, h5⟩
theorem fnG_def {G : GC} {T : Tab} {P : Program} {w : World} {K : PySem.W.Frag} {mg : Str → Option Value} {base : Heap} {k : Nat} {N ps : List Str} {x qual : Str} {params : Arguments} {body : List Stmt} {scope : Scope} {f : Addr} {fd : FuncData} {d : FnD} {n m : Nat} {t : SS}
    (F : FunD K x qual params body scope [] [] f fd) (L : Says G T P w K mg base k) (S : FnScope N ps scope) (hn : ps.length = d.n) (ht : trBody (tr n) ⟨N, scope, none, true, T⟩ m body = some t)
    (hsp : ∀ ds S E Q, ds.length = d.n → d.sp ds S E Q → t ⟨fun _ S' => trQ S Q .non S', trQ S Q, fun x _ S' => trE S E x S', fun _ _ => False, fun _ _ => False⟩ (startD N ds) S) :
    FnG P w K mg base (k + 1) f fd ps (LSp G d.n d.sp) := by
  obtain ⟨oc, od, dV, kV, doc, pm, an, cdv, ct, osl, rfl, lk, hcd, _, _⟩ := F.ex
  refine ⟨fun vs H Q E h => by rw [hn]; exact h.1, fun A outer s H args us vs Q E hr hg e0 hb r hq => ?_⟩
  have hl : vs.length = ps.length := by rw [hn]; exact hq.1
  have KX : K.In s.heap := e0.mod.kin.keeps fun b o e => (e0.bs b o e).1
  have lim : s.heap.NoLimit := e0.mod.nolimit.keeps fun b o e => (e0.bs b o e).1
  have hkind : ∀ y ∈ ps.zip us, scope.names.lookup y.1 = some .local ∨ (scope.names.lookup y.1 = some .cell ∧ ((cellsFrom (s.heap.objs.size + 1) scope.names []).lookup y.1).isSome = true) := fun ⟨z, v⟩ hy =>
    (S.par z (List.of_mem_zip hy).1).elim .inl fun q => .inr ⟨q, PySem.W.cellsFrom_some _ _ _ (.inl q)⟩
  refine codeAny_call_function hr.depth (KX _ _ lk) rfl S.co S.gen rfl (PySem.W.codeRec_of KX hcd) (hb _ _ _ _ (wpAny_newFunctionEnv_cells S.kind hkind fun env he s1 xc => ?_))
  subst he
  refine ⟨lim.keeps xc.toInCall.keep, codeAny_func ?_⟩
  have I : L2.Inv (cxOf (L2.CX P w) P w K mg base N qual scope f cdv A outer s H E) [] (L2.start N vs) H s1 := inv_start S hr.hd e0 hl r xc
  have hb2 := x_body (snd_tr n) (stOk_def (A := A) (outer := outer) (s := s) (H := H) (E := E) (qual := qual) (f := f) (cd := cdv) L S (hr.deeper _) hg) ht
  obtain ⟨_, S0, as, ds, Ed, Qd, hs, rd, hx, q, po⟩ := hq
  have hdl : ds.length = d.n := by rw [← rd.length, hl, hn]
  refine wpAny_mono (hb2.run [] s1 (L2.start N vs) H ⟨fun _ H' => Q .non H', Q, fun _ _ => False, fun _ _ => False⟩ I ⟨startD N ds, S0, as, _, repE_start rd, hs, hsp ds S0 Ed Qd hdl q, ?_⟩) (fun fl s' hf => ?_) fun e s' he => he
  · have rt : ∀ v H' as' d' S', Ext H as H' as' → RepS G H' as' S' → Rep G H' as' d' v → trQ S0 Qd d' S' → Q v H' := fun v H' as' d' S' e r rv ⟨S1, c, cl, q⟩ =>
      po v H' (as'.take S1.length) d' S1 (e.take (by rw [hs.len]; exact c.1)) (hs.cut L.exn r c) (rep_take d' v cl rv) q
    refine ⟨fun σ' H' as' env' S' e he r q => rt .non H' as' .non S' e r rfl q, rt, fun x cls dd σ' H' as' env' S' e he r rx ⟨S1, c, cl, q⟩ => ?_, fun _ _ _ _ _ _ _ _ z => z, fun _ _ _ _ _ _ _ _ z => z⟩
    obtain ⟨C, d1, vs1, g1, g2, g3, g4, g5⟩ := rx
    exact hx x cls dd H' (as'.take S1.length) S1 (e.take (by rw [hs.len]; exact c.1)) (hs.cut L.exn r c) ⟨C, d1, vs1, g1, g2, g3, g4, repf_take _ _ cl g5⟩ q
  · cases fl with
    | ret u => obtain ⟨v, σ', H', J, rv, q⟩ := hf; exact ⟨v, H', J.os, J.bare, J.base, J.hok, rv, q⟩
    | next => obtain ⟨σ', H', J, q⟩ := hf; exact ⟨V.non, H', J.os, J.bare, J.base, J.hok, rfl, q⟩
    | brk => obtain ⟨_, _, _, q⟩ := hf; exact False.elim q
    | cont => obtain ⟨_, _, _, q⟩ := hf; exact False.elim q
/-! ### a def that lists the kinds of an error -/
abbrev TC.cold (N : List Str) (scope : Scope) (T : Tab) : TC := ⟨N, scope, none, false, T⟩
def trKb (C : TC) : List Stmt → Option SS
  | [.Assign [.Name y _] (.List es1 _) _, .Return (some (.BinOp (.Name y2 _) .Add (.List es2 _) _)) _] =>
    if (decide (es1.length ≤ 1000) && decide (es2.length ≤ 1000) && decide (y2 = y) && plainB y && tgB C y && visK (C.sc.names.lookup y)) = true then
      (ixOf C.N y).bind fun j => (trL (trIs C) es1).bind fun t1 => (trL (trIs C) es2).map fun t2 => sSeq [sAsg (eLst t1) (gVar j), sRet (eBin addD (eVar j) (eLst t2))]
    else none
  | _ => none
theorem trIs_plain {C : TC} : ∀ {es : List Expr} {ts : List SE}, trL (trIs C) es = some ts → plainEs es = true
  | [], ts, h => rfl
  | e :: es, ts, h => by
    unfold trL at h
    obtain ⟨t, h1, h2⟩ := Option.bind_eq_some_iff.mp h
    obtain ⟨ts', h3, rfl⟩ := Option.map_eq_some_iff.mp h2
    unfold plainEs
    have pe : plainE e = true := by
      unfold trIs at h1
      split at h1
      · rfl
      · cases h1
    rw [pe, trIs_plain h3]
    rfl
theorem x_kb {G : GC} {C : TC} {X : Cx} {i : ExI} {oe : Obj} {Cc : Addr} (c : CtxOk (G.at i) C X (fun _ _ _ _ => False)) (hp : (i.a, oe) ∈ X.pn) (hz : Zc (.ref Cc) (some i.d) oe) (hf : ∃ vs, oe.data = .fields vs) (xc : ExcC X.K Cc) (hca : G.ca i.c = some Cc) (hex : (C.T.exc i.c).isSome = true) (L : KlsOk G C.T X)
    (hsp : Snd (tr 2)) {b : List Stmt} {t : SS} (h : trKb C b = some t) : PSs X b (LS (G.at i) (fun _ _ _ _ => False) t) := by
  unfold trKb at h
  split at h
  · rename_i y py es1 pl1 p2 y2 py2 es2 pl2 pb p3
    split at h
    · rename_i q
      simp only [Bool.and_eq_true, decide_eq_true_eq] at q
      obtain ⟨⟨⟨⟨⟨q1, q2⟩, q3⟩, q4⟩, q5⟩, q6⟩ := q
      subst q3
      obtain ⟨j, hj, h⟩ := Option.bind_eq_some_iff.mp h
      obtain ⟨t1, h1, h⟩ := Option.bind_eq_some_iff.mp h
      obtain ⟨t2, h2, rfl⟩ := Option.map_eq_some_iff.mp h
      have el : ∀ {e : Expr} {t : SE}, trIs C e = some t → PE X e (LE (G.at i) (fun _ _ _ _ => False) t) := fun h => (x_is c hp hz hf xc hca hex L h).2.2
      have l1 := s_lst (pos := pl1) q1 (s_list el (trIs_plain h1) h1)
      have l2 := s_lst (pos := pl2) q2 (s_list el (trIs_plain h2) h2)
      exact lss_cons (ls_asg l1 (g_var c q5 hj) (sw_sole rfl _ _ _) (sw_ok c.kind (by unfold swSt parts2; rfl)) (ev_one rfl _)) (lss_cons (ls_ret (s_bin c rfl (s_var c q4 q6 hj) l2)) lss_nil)
    · cases h
  · cases h
theorem fnP_def {G : GC} {T : Tab} {P : Program} {w : World} {K : PySem.W.Frag} {mg : Str → Option Value} {base : Heap} {k : Nat} {N ps : List Str} {x qual : Str} {params : Arguments} {body : List Stmt} {scope : Scope} {f : Addr} {fd : FuncData} {ab : List Str × List Str} {t : SS}
    (F : FunD K x qual params body scope [] [] f fd) (L : Says G T P w K mg base k) (S : FnScope N ps scope) (hn : ps.length = 1) (ht : trKb ⟨N, scope, none, false, T⟩ body = some t)
    (hsp : ∀ c fs S (Q : QV), Q (.lref (S.length + 2)) (S ++ [.lst (ab.1.map fun k => .bl (T.isa c k)), .lst (ab.2.map fun k => .bl (T.isa c k)), .lst ((ab.1 ++ ab.2).map fun k => .bl (T.isa c k))]) → t ⟨fun _ _ => False, Q, fun _ _ _ => False, fun _ _ => False, fun _ _ => False⟩ (startD N [.exc c fs]) S) :
    FnP G T P w K mg base (k + 1) f fd ps ab := by
  obtain ⟨oc, od, dV, kV, doc, pm, an, cdv, ct, osl, rfl, lk, hcd, _, _⟩ := F.ex
  refine ⟨fun A outer s H args us i Cc p Q hr hg hpin e0 hb hus hpa hz hf hca hex hq => ?_⟩
  subst hus
  obtain ⟨pa, oe⟩ := p
  dsimp only at hpa hz hf
  subst hpa
  have KX : K.In s.heap := e0.mod.kin.keeps fun b o e => (e0.bs b o e).1
  have lim : s.heap.NoLimit := e0.mod.nolimit.keeps fun b o e => (e0.bs b o e).1
  have hkind : ∀ y ∈ ps.zip [Value.ref i.a], scope.names.lookup y.1 = some .local ∨ (scope.names.lookup y.1 = some .cell ∧ ((cellsFrom (s.heap.objs.size + 1) scope.names []).lookup y.1).isSome = true) := fun ⟨z, v⟩ hy =>
    (S.par z (List.of_mem_zip hy).1).elim .inl fun q => .inr ⟨q, PySem.W.cellsFrom_some _ _ _ (.inl q)⟩
  refine codeAny_call_function hr.depth (KX _ _ lk) rfl S.co S.gen rfl (PySem.W.codeRec_of KX hcd) (hb _ _ _ _ (wpAny_newFunctionEnv_cells S.kind hkind fun env he s1 xc => ?_))
  subst he
  refine ⟨lim.keeps xc.toInCall.keep, codeAny_func ?_⟩
  have I : L2.Inv (L2H.cxH (L2.CX P w) P w K mg base N qual scope f cdv A outer s H (fun _ _ _ => False) (i.a, oe)) [] (L2.start N [.ref i.a]) H s1 := L2H.inv_startH S hpin e0 (by rw [hn]; rfl) (.cons rfl .nil) xc
  have hu := (hr.deeper (envOfC qual scope s.heap.objs.size f cdv)).un
  have c : CtxOk (G.at i) ⟨N, scope, none, false, T⟩ (L2H.cxH (L2.CX P w) P w K mg base N qual scope f cdv A outer s H (fun _ _ _ => False) (i.a, oe)) (fun _ _ _ _ => False) := {
    K := L.hK
    N := rfl
    sc := rfl
    nd := S.nd
    kind := S.kind
    calm := fun z => absurd (show false = true from z) Bool.false_ne_true
    room := fun z => absurd (show false = true from z) Bool.false_ne_true
    units := by show (A.deeper _).units + 65 < cLine; omega
    guards := hg
    tg := fun x hx => ⟨locK_iff (show locK (scope.names.lookup x) = true from hx), .inl rfl⟩
    bi := L.bi
    glob := fun x d e => by
      obtain ⟨u, v, h1, h2, h3⟩ := L.glob x d e
      exact ⟨u, v, h1, h2, fun H as => rep_in L.exn i d v (h3 H as)⟩
    sp := fun z => absurd (show false = true from z) Bool.false_ne_true
    tk := fun u s' ⟨a, B, sI, pins, σ, H, cls, d, e, I, nb, up, sky, na, os, ag, w⟩ => w.elim
    po := passes_of (X := L2H.cxH (L2.CX P w) P w K mg base N qual scope f cdv A outer s H (fun _ _ _ => False) (i.a, oe)) rfl }
  obtain ⟨ns, hns⟩ := Option.isSome_iff_exists.mp hex
  obtain ⟨C2, _, g2, _, xc2, _⟩ := L.exc i.c ns hns
  rw [hca] at g2
  cases g2
  have kls : KlsOk G T (L2H.cxH (L2.CX P w) P w K mg base N qual scope f cdv A outer s H (fun _ _ _ => False) (i.a, oe)) := ⟨fun y h => by
    obtain ⟨ns, hns⟩ := Option.isSome_iff_exists.mp h
    obtain ⟨C2, h1, h2, _⟩ := L.exc y ns hns
    exact ⟨C2, h1, h2⟩, L.isi⟩
  have hb2 := x_kb c (List.mem_singleton.mpr rfl) hz hf xc2 hca hex kls (snd_tr 2) ht
  obtain ⟨_, S0, as, ds, Ed, Qd, hs, rd, hx, q, po⟩ := hq
  obtain ⟨fs, rfl, q⟩ := q
  refine wpAny_mono (hb2.run [] s1 (L2.start N [.ref i.a]) H ⟨fun _ _ => False, Q, fun _ _ => False, fun _ _ => False⟩ I ⟨startD N [.exc i.c fs], S0, as, _, repE_start rd, hs, hsp i.c fs S0 Qd q, ?_⟩) (fun fl s' hf => ?_) fun e s' he => he
  · exact ⟨fun _ _ _ _ _ _ _ _ z => z, po, fun _ _ _ _ _ _ _ _ _ _ _ _ z => z.elim, fun _ _ _ _ _ _ _ _ z => z, fun _ _ _ _ _ _ _ _ z => z⟩
  · cases fl with
    | ret u => obtain ⟨v, σ', H', J, rv, q⟩ := hf; exact ⟨v, H', J.os, J.bare, J.base, J.hok, rv, q⟩
    | next => obtain ⟨σ', H', J, q⟩ := hf; exact q.elim
    | brk => obtain ⟨_, _, _, q⟩ := hf; exact False.elim q
    | cont => obtain ⟨_, _, _, q⟩ := hf; exact False.elim q
end SD

-- SD21
set_option Elab.async false
set_option linter.all false
set_option maxRecDepth 100000
set_option maxHeartbeats 2000000
namespace SD
open PySem L2 PyProof.Rows
/-! ### the law's call -/
theorem lawG {P : Program} {w : World} {K : PySem.W.Frag} {mg mb : Str → Option Value} {k : Nat} {fa a : Addr} {fd : FuncData} {x : Str} {G : GC} {sp : SpD} {s₁ : Shared} {vs : List Value} {ns : List Int}
    (KX : K.In s₁.heap) (hns : s₁.heap.Ns mainGlobals mg) (hb : s₁.heap.Ns builtinsNs mb) (hbb : ∀ x : Str, x ≠ "__name__" → mb x = bootBuiltins x) (hlim : s₁.heap.NoLimit) (hg : s₁.gens = #[])
    (ha : s₁.heap.get? a = some { cls := .type "list", data := .seq vs.toArray }) (hi : IntsAre vs ns) (hl : ns.length ≤ sizeLine) (hr : Room k callerA) (hK : G.K = K)
    (F : ∀ base : Heap, K.In base → base.Ns mainGlobals mg → FnG P w K mg base k fa fd [x] (LSp G 1 sp)) (hbind : ∀ (s : Shared) (u : Value), BindsTo s fd ⟨[u], []⟩ [(x, u)])
    (hsp : sp [.scr ns] [] noX (fun r _ => r = .bl true)) :
    codeAny (model P w) callerA (.call (.ref fa) ⟨[.ref a], []⟩) (fun r s' => r = .ok (.ret (.bool true)) ∧ OldK s₁.heap s'.heap ∧ s'.os = s₁.os ∧ AllBare s'.gens) s₁ := by
  have rv := vals_ints hi
  have lenV := hi.length
  have go : ∀ H : Hp, (∀ b, H b = none ∨ (b = a ∧ K.lookup a = none ∧ ∃ o xs, H b = some (.frz o (.lst xs)))) → SqF K H a (ns.map V.int) → HOk P w H s₁.heap →
      codeAny (model P w) callerA (.call (.ref fa) ⟨[.ref a], []⟩) (fun r s' => r = .ok (.ret (.bool true)) ∧ OldK s₁.heap s'.heap ∧ s'.os = s₁.os ∧ AllBare s'.gens) s₁ := by
    intro H hO hS hok
    have up : ∀ {b : Addr} {o : Obj}, s₁.heap.get? b = some o → H b = none → (hidT s₁.heap H).get? b = some o := fun e n => hidT_get e n
    have dn : ∀ {b : Addr} {o : Obj} {es : Array DictEntry} {ep : Nat}, s₁.heap.get? b = some o → o.data = .dict es ep → H b = none := fun {b o es ep} e d => by
      rcases hO b with z | ⟨z, _⟩
      · exact z
      · subst z
        rw [ha] at e
        cases e
        have d' : Data.seq vs.toArray _ = Data.dict es ep := d
        cases d'
    have nsK : ∀ {b : Addr} {m : Str → Option Value}, s₁.heap.Ns b m → (hidT s₁.heap H).Ns b m := fun {b m} ⟨o, es, ep, e, d, r⟩ => ⟨o, es, ep, up e (dn e d), d, r⟩
    have kin : K.In (hidT s₁.heap H) := fun b o e => up (KX b o e) (by
      rcases hO b with z | ⟨z, n, _⟩
      · exact z
      · subst z
        rw [n] at e
        cases e)
    have M : Mod K mg (hidT s₁.heap H) := ⟨kin, nsK hns, ⟨mb, nsK hb, hbb⟩, let ⟨mc, h1, h2⟩ := hlim; ⟨mc, nsK h1, h2⟩⟩
    have e0 : Env0 P w K mg (hidT s₁.heap H) callerA [] s₁ H := ⟨rfl, M, fun b o e => of_hidT e, Nat.le_of_eq (hidT_size _ _), trivial, fun b z => (nomatch z), hok, .of_eq hg⟩
    have q : LSp G 1 sp [V.ref a] H (fun v _ => v = .bl true) fun _ _ _ => False :=
      ⟨rfl, [], [], [.scr ns], noX, _, ⟨rfl, List.nodup_nil, fun k a c h => by simp at h⟩, ⟨_, [], rfl, ⟨a, rfl, hK ▸ hS⟩, rfl⟩, fun _ _ _ _ _ _ _ _ _ z => z.elim, hsp, fun v H' as' d S' e r rd z => by subst z; exact rd⟩
    refine codeAny_mono ((F _ kin (nsK hns)).run callerA [] s₁ H ⟨[.ref a], []⟩ [.ref a] [.ref a] _ _ hr rfl e0 (hbind s₁ (.ref a)) (.cons rfl .nil) q) fun r s' h => ?_
    rcases r with e | fl
    · obtain ⟨_, _, _, _, _, _, _, _, _, _, _, _, z⟩ := h
      exact z.elim
    · cases fl with
      | next => exact False.elim h
      | brk => exact False.elim h
      | cont => exact False.elim h
      | ret u =>
        obtain ⟨v, H', os, bare, un, hok', r', z⟩ := h
        have z' : v = .bl true := z
        subst z'
        obtain rfl : u = Value.bool true := r'
        refine ⟨rfl, OldK.of_keep fun b o e => ?_, os, bare⟩
        rcases hO b with z | ⟨_, _, ob, xs, z⟩
        · exact un.keep b o e z (fun y => nomatch y) (by simp)
        · obtain ⟨e1, _⟩ := hok b _ z
          obtain ⟨e2, _⟩ := hok' b _ (un.frzs b ob _ z)
          rw [e] at e1
          cases e1
          exact e2
  cases hk : K.lookup a with
  | some o =>
    have e := KX a o hk
    rw [ha] at e
    cases e
    exact go (fun _ => none) (fun _ => .inl rfl) (.inr (.inr ⟨_, vs.toArray, _, hk, rfl, rfl, rfl, by rw [List.size_toArray, lenV]; exact hl, by simpa using rv⟩)) fun b u z => (by have z' : (none : Option HO) = some u := z; cases z')
  | none =>
    refine go (fun b => if b = a then some (.frz { cls := .type "list", data := .seq vs.toArray } (.lst (ns.map V.int))) else none) (fun b => ?_) (.inl ⟨{ cls := .type "list", data := .seq vs.toArray }, if_pos rfl⟩) (fun b u z => ?_)
    · by_cases hb : b = a
      · exact .inr ⟨hb, hk, _, _, if_pos hb⟩
      · exact .inl (if_neg hb)
    · by_cases hb : b = a
      · have z' := (if_pos hb).symm.trans z
        cases z'
        subst hb
        exact ⟨ha, by rw [List.length_map]; exact hl, vs, _, rv, ha⟩
      · have z' := (if_neg hb).symm.trans z
        cases z'
theorem walkG {l : PySem.W.OpenLaw} {n k : Nat} {q : Program} {loose : List Str} {XP : (Str → Option Value) → Heap → Prop} {YP : World → Heap → Prop} {d : DefRec} {x : Str}
    (hn : l.most = some n) (hn2 : n ≤ sizeLine) (hdf : d.params.defaults = []) (hr : Room k callerA)
    (F : ∀ (w : World) (mg : Str → Option Value) (fa : Addr) (h : Heap), YP w h → h.Ns mainGlobals mg → mg d.name = some (.ref fa) →
      ∃ (K : PySem.W.Frag) (fd : FuncData) (G : GC) (sp : SpD), K.In h ∧ G.K = K ∧ (∀ (s : Shared) (u : Value), BindsTo s fd ⟨[u], []⟩ [(x, u)]) ∧
        (∀ ns : List Int, ns.length ≤ n → sp [.scr ns] [] noX (fun r _ => r = .bl true)) ∧ ∀ base : Heap, K.In base → base.Ns mainGlobals mg → FnG l.prog w K mg base k fa fd [x] (LSp G 1 sp)) :
    PySem.W.WalkO q loose XP YP l.row.toRowW d [] (fun f vs => PySem.call f vs) := by
  refine Att.attach_call hn hdf fun w s₀ s₁ mg mb fa o pm cd doc a vs ns G Y ho hd hcd hmg hobj hints hlen hg => ?_
  obtain ⟨K, fd, G', sp, KX, hK, hb, hsp, hF⟩ := F w mg fa _ Y G.T.g hmg
  exact lawG KX G.T.g G.T.b G.T.builtins G.T.nolimit hg hobj hints (Nat.le_trans hlen hn2) hr hK hF hb (hsp ns hlen)
end SD

-- SD22
set_option Elab.async false
set_option linter.all false
set_option maxRecDepth 100000
set_option maxHeartbeats 2000000
namespace SD
open PySem L2 PyProof.Rows He
/-! ### what the head tells of the program -/
structure ErD where
  x : Str
  fs : List Str
  q : Str
  params : Arguments
  body : List Stmt
  scope : Scope
structure PD where
  defs : List DefD
  ers : List ErD
  globs : List (Str × D)
  isa : List (Str × Str)
  file : Str
abbrev ErV : Type := Option (Str × Str × Arguments × FuncBody × Scope × Addr × Value × Addr)
def inA (K : PySem.W.Frag) (x : Str) : Addr := ma K (ga K x) "__init__"
def erLook (K : PySem.W.Frag) (d : ErD) : ErV := match K.lookup (inA K d.x) with
  | some ⟨_, _, .func fd, _⟩ => some (fd.name, fd.qualname, fd.params, fd.body, fd.scope, fd.globals, fd.defaults, fd.builtins)
  | _ => none
def erVal (d : ErD) : ErV := some ("__init__", d.q, d.params, .stmts d.body, d.scope, mainGlobals, .none, builtinsNs)
def erV (K : PySem.W.Frag) (d : ErD) : ErV := match d.fs with
  | [] => none
  | _ => erLook K d
def ErD.val (d : ErD) : ErV := match d.fs with
  | [] => none
  | _ => erVal d
def oexB (K : PySem.W.Frag) (C : Addr) : Bool := match K.lookup C with
  | some ⟨.type t, _, .cls cd, sl⟩ => decide (t = "type") && ((match cd.mro with
    | .ref c :: bm => decide (c = C) && PySem.HandSPX.refsVE bm
    | _ => false) && ((match sl.toList with
    | [_, _, _, _, some (.builtin b), _] => decide (b = "ValueError.__new__")
    | _ => false) && (cd.hasDict && !cd.hasDel)))
  | _ => false
theorem oexB_ok {K : PySem.W.Frag} {C : Addr} (h : oexB K C = true) : ∃ nm q N bs bm sn sub ab col dd k0 k1 k2 k3 k5, K.lookup C = some (excClassObj nm q C N bs bm true sn sub ab col dd k0 k1 k2 k3 k5 "ValueError.__new__") ∧ PySem.HandSPX.refsVE bm = true := by
  unfold oexB at h
  split at h
  · rename_i t dd cd sl ho
    obtain ⟨h1, h⟩ := ba h
    obtain ⟨h2, h⟩ := ba h
    obtain ⟨h3, h⟩ := ba h
    obtain ⟨h4, h5⟩ := ba h
    split at h2
    · rename_i c bm hm
      obtain ⟨h6, h7⟩ := ba h2
      split at h3
      · rename_i k0 k1 k2 k3 b k5 hs
        obtain ⟨nm, bs, mro, ns, qn, hd, sn, sub, ab, col, del⟩ := cd
        obtain ⟨l⟩ := sl
        dsimp only at hm h4 h5 hs
        have h1 := of_decide_eq_true h1
        have h6 := of_decide_eq_true h6
        have h3 := of_decide_eq_true h3
        subst h1 h6 h3 hm h4 hs
        cases del with
        | true => cases h5
        | false => exact ⟨_, _, _, _, _, _, _, _, _, _, _, _, _, _, _, ho, h7⟩
      · cases h3
    · cases h2
  · cases h
def fileB (K : PySem.W.Frag) (file q : Str) (v : Value) : Bool := match v with
  | .ref cda => PySem.W.codeIn K (.ref cda) q && (match K.lookup cda with
    | some ⟨_, _, .fields vs, _⟩ => (match (vs[2]? : Option Value) with
      | some (Value.str fl _) => file == fl
      | _ => false)
    | _ => false)
  | _ => false
def cellB (K : PySem.W.Frag) (C : Addr) (l : List (Str × Addr)) : Bool := match l with
  | [(y, cc)] => decide (y = "__class__") && (match K.lookup cc with
    | some ⟨_, _, .cell (some (.ref D)), _⟩ => (PySem.W.clsIn K D).isSome && (decide (PySem.W.mroIn K C (.ref D) = some true) && eqO (PySem.W.ks_superIn K C D "__init__") (some (some (.builtin "ValueError.__init__"))))
    | _ => false)
  | _ => false
def excB (K : PySem.W.Frag) (D : Addr) : Bool :=
  xfB K D && (eqO (PySem.W.findIn K (.ref D) "__class__") (some (some (.builtin "object.__class__"))) && (eqO (PySem.W.specialIn K (.builtin "object.__class__") "__get__") (some (some (.builtin "getset_descriptor.__get__"))) &&
  (decide (PySem.W.takesIn K (.builtin "object.__class__") = some true) && decide (PySem.W.mroIn K D (.type "object") = some true))))
theorem excB_ok {K : PySem.W.Frag} {D : Addr} (h : excB K D = true) : ExcC K D := by
  unfold excB at h
  obtain ⟨h1, h⟩ := ba h
  obtain ⟨h2, h⟩ := ba h
  obtain ⟨h3, h⟩ := ba h
  obtain ⟨h4, h5⟩ := ba h
  have x := xfB_ok h1
  exact ⟨x.ga, x.gg, x.exC, x.hdC, eqO_ok h2, eqO_ok h3, of_decide_eq_true h4, of_decide_eq_true h5⟩
/-- what the class and its __init__ say -/
def erI (K : PySem.W.Frag) (file : Str) (d : ErD) : Bool :=
  oexB K (ga K d.x) && (eqO (PySem.W.findIn K (.ref (ga K d.x)) "__setattr__") (some (some (.builtin "object.__setattr__"))) && (decide (PySem.W.subIn K (.ref (ga K d.x)) (.type "BaseException") = some true) &&
  (decide (PySem.W.typeIn K (.ref (ga K d.x)) = some (.type "type")) && (PySem.W.keepIn K (.ref (ga K d.x)) && (eqO (PySem.W.findIn K (.ref (ga K d.x)) "__init__") (some (some (.ref (inA K d.x)))) &&
  (decide (PySem.W.typeIn K (.ref (inA K d.x)) = some (.type "function")) && (decide (PySem.W.subIn K (.ref (ga K d.x)) (.type "ValueError") = some true) &&
  (eqO (PySem.W.nsIn K cStatics "thirdparty.any") (some none) && (match K.lookup (inA K d.x) with
    | some ⟨_, _, .func fd, _⟩ => fileB K file d.q fd.code && cellB K (ga K d.x) fd.closure
    | _ => false)))))))))
def erB (K : PySem.W.Frag) (file : Str) (d : ErD) : Bool :=
  excB K (ga K d.x) && ((d.fs.all fun f => eqO (PySem.W.findIn K (.ref (ga K d.x)) f) (some none)) && (match d.fs with
    | [] => true
    | _ => erI K file d))
/-- what the text of such an __init__ says by itself -/
structure ErStat1 (prog : Program) (d : ErD) (f : Str) : Prop where
  body : ∃ p0 p1 p2 p3 p4 p5 p6 p7 p8 p9 : Pos, (p2.endLine == p4.line) = true ∧ d.body = errBody f p0 p1 p2 p3 p4 p5 p6 p7 p8 p9
  bind : ∀ (kV doc pm : Value) (an : Option Addr) (cdv ct : Value) (cc : Addr) (u v : Value), bindArgs (PySem.W.ksFn "__init__" d.q d.params d.body d.scope .none kV doc pm an cdv ct cc) ⟨[u, v], []⟩ = pure [(("self" : Str), u), (f, v)]
  par : ∃ ar, (d.params.posonlyargs ++ d.params.args).head? = some ar ∧ ar.arg = "self"
  sSelf : d.scope.names.lookup ("self" : Str) = some .local
  sF : d.scope.names.lookup f = some .local
  sSuper : d.scope.names.lookup ("super" : Str) = some .globalImplicit
  sClass : d.scope.names.lookup ("__class__" : Str) = some .free
  nocell : ∀ x ∈ d.scope.names, x.2 ≠ .cell
  co : d.scope.isCoroutine = false
  gen : d.scope.isGenerator = false
  kind : d.scope.kind = .function
  fne : (("self" : Str) == f) = false
  fdb : (f == ("__debug__" : Str)) = false
  top : (prog.main.scope.names.lookup ("super" : Str)).isSome = false
structure ErStat2 (prog : Program) (d : ErD) (f g : Str) : Prop where
  body : ∃ p0 p1 p2 p3 q3 p4 p5 p6 p7 p8 p9 r6 r7 r8 r9 : Pos, (p2.endLine == p4.line) = true ∧ d.body = errBody2 f g p0 p1 p2 p3 q3 p4 p5 p6 p7 p8 p9 r6 r7 r8 r9
  bind : ∀ (kV doc pm : Value) (an : Option Addr) (cdv ct : Value) (cc : Addr) (u v v2 : Value), bindArgs (PySem.W.ksFn "__init__" d.q d.params d.body d.scope .none kV doc pm an cdv ct cc) ⟨[u, v, v2], []⟩ = pure [(("self" : Str), u), (f, v), (g, v2)]
  par : ∃ ar, (d.params.posonlyargs ++ d.params.args).head? = some ar ∧ ar.arg = "self"
  sSelf : d.scope.names.lookup ("self" : Str) = some .local
  sF : d.scope.names.lookup f = some .local
  sG : d.scope.names.lookup g = some .local
  sSuper : d.scope.names.lookup ("super" : Str) = some .globalImplicit
  sClass : d.scope.names.lookup ("__class__" : Str) = some .free
  nocell : ∀ x ∈ d.scope.names, x.2 ≠ .cell
  co : d.scope.isCoroutine = false
  gen : d.scope.isGenerator = false
  kind : d.scope.kind = .function
  fne : (("self" : Str) == f) = false
  gne : (("self" : Str) == g) = false
  fgn : (f == g) = false
  gfn : (g == f) = false
  fdb : (f == ("__debug__" : Str)) = false
  gdb : (g == ("__debug__" : Str)) = false
  top : (prog.main.scope.names.lookup ("super" : Str)).isSome = false
def ErStatL (prog : Program) (d : ErD) : List Str → Prop
  | [] => True
  | [f] => ErStat1 prog d f
  | [f, g] => ErStat2 prog d f g
  | _ => False
def ErStat (prog : Program) (d : ErD) : Prop := ErStatL prog d d.fs
theorem er_fn {K : PySem.W.Frag} {file : Str} {d : ErD} (e : erLook K d = erVal d) (h : (match K.lookup (inA K d.x) with
    | some ⟨_, _, .func fd, _⟩ => fileB K file d.q fd.code && cellB K (ga K d.x) fd.closure
    | _ => false) = true) :
    ∃ (oc : Value) (od : Option Addr) (kV doc pm : Value) (an : Option Addr) (ct : Value) (osl : Array (Option Value)) (cda cc D : Addr), K.lookup (inA K d.x) = some ⟨oc, od, .func (PySem.W.ksFn "__init__" d.q d.params d.body d.scope .none kV doc pm an (.ref cda) ct cc), osl⟩ ∧
      PySem.W.codeIn K (.ref cda) d.q = true ∧ (∃ (ccl : Value) (cdd : Option Addr) (vs : Array Value) (ccs : Array (Option Value)) (fl : Str) (tf : Tok), K.lookup cda = some ⟨ccl, cdd, .fields vs, ccs⟩ ∧ vs[2]? = some (.str fl tf) ∧ (file == fl) = true) ∧
      (∃ (cl : Value) (cld : Option Addr) (csl : Array (Option Value)), K.lookup cc = some ⟨cl, cld, .cell (some (.ref D)), csl⟩) ∧ (∃ cd, PySem.W.clsIn K D = some cd) ∧ PySem.W.mroIn K (ga K d.x) (.ref D) = some true ∧ PySem.W.ks_superIn K (ga K d.x) D "__init__" = some (some (.builtin "ValueError.__init__")) := by
  unfold erLook at e
  split at h
  · rename_i oc od fd osl ho
    rw [ho] at e
    obtain ⟨n1, n2, n3, n4, n5, n6, n7, n8, n9, n10, n11, n12, n13, n14, n15⟩ := fd
    have e2 : (some (n1, n2, n3, n4, n5, n6, n8, n15) : ErV) = erVal d := e
    unfold erVal at e2
    simp only [Option.some.injEq, Prod.mk.injEq] at e2
    obtain ⟨g1, g2, g3, g4, g5, g6, g7, g8⟩ := e2
    subst g1 g2 g3 g4 g5 g6 g7 g8
    obtain ⟨h12, h13⟩ := ba h
    unfold fileB at h12
    split at h12
    · rename_i cda hcda
      obtain ⟨h14, h15⟩ := ba h12
      split at h15
      · rename_i ccl cdd vs ccs hlk
        split at h15
        · rename_i fl tf hvs
          unfold cellB at h13
          split at h13
          · rename_i y cc hcl
            obtain ⟨h16, h17⟩ := ba h13
            have h16 := of_decide_eq_true h16
            subst h16
            split at h17
            · rename_i cl cld D csl hcell
              obtain ⟨h18, h19⟩ := ba h17
              obtain ⟨h20, h21⟩ := ba h19
              obtain ⟨cd, hcd⟩ := Option.isSome_iff_exists.mp h18
              dsimp only at hcda hcl
              subst hcda hcl
              exact ⟨oc, od, n9, n10, n11, n12, n14, osl, cda, cc, D, ho, h14, ⟨ccl, cdd, vs, ccs, fl, tf, hlk, hvs, h15⟩, ⟨cl, cld, csl, hcell⟩, ⟨cd, hcd⟩, of_decide_eq_true h20, eqO_ok h21⟩
            · cases h17
          · cases h13
        · cases h15
      · cases h15
    · cases h12
  · cases h
theorem er_ok {prog : Program} {K : PySem.W.Frag} {d : ErD} (s : ErStat prog d) (e : erV K d = d.val) (h : erB K prog.main.file d = true) : ErrK prog K (ga K d.x) d.fs ∧ ExcC K (ga K d.x) ∧ ∀ f ∈ d.fs, PySem.W.findIn K (.ref (ga K d.x)) f = some none := by
  unfold erB at h
  obtain ⟨h1, h⟩ := ba h
  obtain ⟨h2, h⟩ := ba h
  have no : ∀ f ∈ d.fs, PySem.W.findIn K (.ref (ga K d.x)) f = some none := fun f hf => eqO_ok (List.all_eq_true.mp h2 f hf)
  refine ⟨?_, excB_ok h1, no⟩
  have s' : ErStatL prog d d.fs := s
  unfold erV ErD.val at e
  have parts : erI K prog.main.file d = true → OexC K (ga K d.x) ∧ PySem.W.findIn K (.ref (ga K d.x)) "__init__" = some (some (.ref (inA K d.x))) ∧ PySem.W.typeIn K (.ref (inA K d.x)) = some (.type "function") ∧ PySem.W.subIn K (.ref (ga K d.x)) (.type "ValueError") = some true ∧ PySem.W.nsIn K cStatics "thirdparty.any" = some none ∧ (match K.lookup (inA K d.x) with
    | some ⟨_, _, .func fd, _⟩ => fileB K prog.main.file d.q fd.code && cellB K (ga K d.x) fd.closure
    | _ => false) = true := fun h => by
    unfold erI at h
    obtain ⟨h1, h⟩ := ba h
    obtain ⟨h2, h⟩ := ba h
    obtain ⟨h3, h⟩ := ba h
    obtain ⟨h4, h⟩ := ba h
    obtain ⟨h5, h⟩ := ba h
    obtain ⟨h6, h⟩ := ba h
    obtain ⟨h7, h⟩ := ba h
    obtain ⟨h9, h⟩ := ba h
    obtain ⟨h10, h⟩ := ba h
    exact ⟨⟨oexB_ok h1, eqO_ok h2, of_decide_eq_true h3, of_decide_eq_true h4, h5⟩, eqO_ok h6, of_decide_eq_true h7, of_decide_eq_true h9, eqO_ok h10, h⟩
  cases hfs : d.fs with
  | nil => trivial
  | cons f r =>
    rw [hfs] at s' e h no
    cases r with
    | nil =>
      obtain ⟨t1, t2, t3, t4, t5, t6⟩ := parts h
      obtain ⟨oc, od, kV, doc, pm, an, ct, osl, cda, cc, D, ho, g1, g2, g3, g4, g5, g6⟩ := er_fn e t6
      have s' : ErStat1 prog d f := s'
      obtain ⟨p0, p1, p2, p3, p4, p5, p6, p7, p8, p9, hp, hbd⟩ := s'.body
      have b := s'.bind
      rw [hbd] at b ho
      exact ⟨inA K d.x, t1, t2, t3, no f List.mem_cons_self, t4, t5, s'.top, d.q, d.params, d.scope, cda, cc, D, ⟨oc, od, doc, pm, an, .none, kV, ct, osl, p0, p1, p2, p3, p4, p5, p6, p7, p8, p9, hp, ho, fun u v => b kV doc pm an (.ref cda) ct cc u v⟩,
        g1, g2, g3, g4, g5, g6, s'.par, s'.sSelf, s'.sF, s'.sSuper, s'.sClass, s'.nocell, s'.co, s'.gen, s'.kind, s'.fne, s'.fdb⟩
    | cons g r =>
      cases r with
      | nil =>
        obtain ⟨t1, t2, t3, t4, t5, t6⟩ := parts h
        obtain ⟨oc, od, kV, doc, pm, an, ct, osl, cda, cc, D, ho, g1, g2, g3, g4, g5, g6⟩ := er_fn e t6
        have s' : ErStat2 prog d f g := s'
        obtain ⟨p0, p1, p2, p3, q3, p4, p5, p6, p7, p8, p9, r6, r7, r8, r9, hp, hbd⟩ := s'.body
        have b := s'.bind
        rw [hbd] at b ho
        exact ⟨inA K d.x, t1, t2, t3, no f List.mem_cons_self, no g (List.mem_cons_of_mem _ List.mem_cons_self), t4, t5, s'.top, d.q, d.params, d.scope, cda, cc, D, ⟨oc, od, doc, pm, an, .none, kV, ct, osl, p0, p1, p2, p3, q3, p4, p5, p6, p7, p8, p9, r6, r7, r8, r9, hp, ho, fun u v v2 => b kV doc pm an (.ref cda) ct cc u v v2⟩,
          g1, g2, g3, g4, g5, g6, s'.par, s'.sSelf, s'.sF, s'.sG, s'.sSuper, s'.sClass, s'.nocell, s'.co, s'.gen, s'.kind, s'.fne, s'.gne, s'.fgn, s'.gfn, s'.fdb, s'.gdb⟩
      | cons _ _ => exact s'.elim
end SD

-- SD23
set_option Elab.async false
set_option linter.all false
set_option maxRecDepth 100000
set_option maxHeartbeats 2000000
namespace SD
open PySem L2 PyProof.Rows He
/-! ### data of the module's names -/
mutual
def relD (K : PySem.W.Frag) : D → Value → Bool
  | .non, .none => true
  | .bl b, .bool c => b == c
  | .int i, .int j _ => decide (i = j)
  | .str x, .str y _ => decide (x = y)
  | .fn n, .ref a => decide (a = ga K n)
  | .tup ds, .ref a => (match K.lookup a with
    | some ⟨.type t, _, .seq its _, _⟩ => decide (t = "tuple") && (decide (its.size ≤ sizeLine) && relDs K ds its.toList)
    | _ => false)
  | _, _ => false
def relDs (K : PySem.W.Frag) : List D → List Value → Bool
  | [], [] => true
  | d :: ds, u :: us => relD K d u && relDs K ds us
  | _, _ => false
end
abbrev gcOf (K : PySem.W.Frag) : GC := ⟨K, fun x => some (ga K x), fun x => some (ga K x), none⟩
mutual
theorem relD_ok {K : PySem.W.Frag} : ∀ (d : D) (u : Value), relD K d u = true → ∃ v, RelV v u ∧ ∀ H as, Rep (gcOf K) H as d v
  | .non, u, h => by cases u <;> first | exact ⟨.non, rfl, fun _ _ => rfl⟩ | (unfold relD at h; cases h)
  | .bl b, u, h => by
    cases u <;> first | (unfold relD at h; cases h; done) | skip
    rename_i c
    unfold relD at h
    exact ⟨.bl c, rfl, fun _ _ => by rw [eq_of_beq h]; rfl⟩
  | .int i, u, h => by
    cases u <;> first | (unfold relD at h; cases h; done) | skip
    unfold relD at h
    exact ⟨.int i, ⟨_, by rw [of_decide_eq_true h]⟩, fun _ _ => rfl⟩
  | .str x, u, h => by
    cases u <;> first | (unfold relD at h; cases h; done) | skip
    unfold relD at h
    exact ⟨.str x, ⟨_, by rw [of_decide_eq_true h]⟩, fun _ _ => rfl⟩
  | .fn n, u, h => by
    cases u <;> first | (unfold relD at h; cases h; done) | skip
    unfold relD at h
    have e := of_decide_eq_true h
    subst e
    exact ⟨.ref _, rfl, fun _ _ => ⟨_, rfl, rfl⟩⟩
  | .tup ds, u, h => by
    cases u <;> first | (unfold relD at h; cases h; done) | skip
    rename_i a
    unfold relD at h
    split at h
    · rename_i t od its n osl ho
      obtain ⟨h1, h2⟩ := ba h
      obtain ⟨h3, h4⟩ := ba h2
      obtain ⟨vs, h5, h6⟩ := relDs_ok ds its.toList h4
      exact ⟨.ref a, rfl, fun H as => ⟨a, vs, rfl, .inr ⟨_, its, n, ho, congrArg Value.type (of_decide_eq_true h1), rfl, of_decide_eq_true h3, h5⟩, h6 H as⟩⟩
    · cases h
  | .lref k, u, h => by cases u <;> (unfold relD at h; cases h)
  | .scr k, u, h => by cases u <;> (unfold relD at h; cases h)
  | .exc c fs, u, h => by cases u <;> (unfold relD at h; cases h)
theorem relDs_ok {K : PySem.W.Frag} : ∀ (ds : List D) (us : List Value), relDs K ds us = true → ∃ vs, Vals vs us ∧ ∀ H as, Reps (gcOf K) H as ds vs
  | [], [], _ => ⟨[], .nil, fun _ _ => rfl⟩
  | [], _ :: _, h => by unfold relDs at h; cases h
  | _ :: _, [], h => by unfold relDs at h; cases h
  | d :: ds, u :: us, h => by
    unfold relDs at h
    obtain ⟨h1, h2⟩ := ba h
    obtain ⟨v, h3, h4⟩ := relD_ok d u h1
    obtain ⟨vs, h5, h6⟩ := relDs_ok ds us h2
    exact ⟨v :: vs, .cons h3 h5, fun H as => ⟨v, vs, rfl, h4 H as, h6 H as⟩⟩
end
/-! ### the tables of a program -/
def assoc (l : List (Str × α)) (x : Str) : Option α := match l with
  | [] => none
  | (y, a) :: r => if y = x then some a else assoc r x
theorem assoc_mem {x : Str} {a : α} : ∀ {l : List (Str × α)}, assoc l x = some a → (x, a) ∈ l
  | [], h => by cases h
  | (y, b) :: r, h => by
    unfold assoc at h
    split at h
    · rename_i e
      cases h
      rw [e]
      exact List.mem_cons_self
    · exact List.mem_cons_of_mem _ (assoc_mem h)
def PD.isaB (p : PD) (x y : Str) : Bool := p.isa.any fun q => decide (q.1 = x) && decide (q.2 = y)
def PD.tabK (p : PD) (l : List (Str × FnD)) (lk : List (Str × (List Str × List Str))) : Tab := ⟨assoc l, assoc p.globs, fun x => assoc (p.ers.map fun e => (e.x, e.fs)) x, p.isaB, assoc lk⟩
abbrev PD.tab (p : PD) (l : List (Str × FnD)) : Tab := p.tabK l []
def PD.chk (p : PD) (K : PySem.W.Frag) : Bool :=
  (biNames.all fun x => eqO (PySem.W.nsIn K mainGlobals x) (some none)) && ((p.globs.all fun q => match PySem.W.nsIn K mainGlobals q.1 with
    | some (some u) => relD K q.2 u
    | _ => false) && ((p.ers.all fun e => erB K p.file e && eqO (PySem.W.nsIn K mainGlobals e.x) (some (some (.ref (ga K e.x))))) &&
    ((p.ers.all fun e => p.ers.all fun f => decide (PySem.W.exmOne K (.ref (ga K e.x)) (.ref (ga K f.x)) = some (p.isaB e.x f.x))) &&
    ((p.defs.all fun d => (Fa.glo d.at_.1).ok K) && ((p.defs.all fun d => d.ok K) &&
    p.ers.all fun e => decide (PySem.W.kitOne K (.ref (ga K e.x)) (.type "ValueError") = some (p.isaB e.x "ValueError")) && p.ers.all fun f => decide (PySem.W.kitOne K (.ref (ga K e.x)) (.ref (ga K f.x)) = some (p.isaB e.x f.x)))))))
abbrev AlX : Type := Bool × List FnW × List ErV
def PD.obs (p : PD) (K : PySem.W.Frag) : AlX := (p.chk K, p.defs.map fun d => fnW K d.at_, p.ers.map fun e => erV K e)
def PD.val (p : PD) : AlX := (true, p.defs.map DefD.val, p.ers.map ErD.val)
def SaysX (p : PD) (K : PySem.W.Frag) : Prop := p.obs K = p.val
def asX (g : Addr → Option Obj) (n : Nat) : List Addr := cStatics :: asD g n
def obsX (n : Nat) (p : PD) (g : Addr → Option Obj) : AlX := p.obs (frG g (asX g n))
def hookX (n : Nat) (p : PD) : PySem.W.Hook where
  α := AlX
  obs := fun s => obsX n p s.heap.get?
  val := fun _ => p.val
  says := fun _ h => ∃ K : PySem.W.Frag, K.In h ∧ SaysX p K
  of := fun _ _ e => ⟨_, frG_in, e⟩
  keeps := fun _ _ _ ⟨K, hK, c⟩ k => ⟨K, PySem.W.Frag.In.keeps hK k, c⟩
theorem obsX_eq {n : Nat} {p : PD} {g : Addr → Option Obj} {s : Shared} (h : ∀ a, g a = s.heap.get? a) : obsX n p g = (hookX n p).obs s := by
  have e : g = s.heap.get? := funext h
  rw [e] <;> rfl
/-! ### the ground that the defs stand on -/
structure Gd (p : PD) (P : Program) (w : World) (K : PySem.W.Frag) (mg : Str → Option Value) (base : Heap) : Prop where
  kin : K.In base
  ns : base.Ns mainGlobals mg
  says : SaysX p K
  stat : ∀ e ∈ p.ers, ErStat P e
  file : P.main.file = p.file
section
variable {p : PD} {P : Program} {w : World} {K : PySem.W.Frag} {mg : Str → Option Value} {base : Heap}
theorem Gd.chk (g : Gd p P w K mg base) : p.chk K = true := congrArg (fun z : AlX => z.1) g.says
def Okd (p : PD) (P : Program) (w : World) (K : PySem.W.Frag) (mg : Str → Option Value) (base : Heap) (x : Str) (d : FnD) (k : Nat) : Prop := ∃ (fd : FuncData) (ps : List Str), mg x = some (.ref (ga K x)) ∧ PySem.W.keepIn K (.ref (ga K x)) = true ∧ Binds K fd ps [] ∧ FnG P w K mg base k (ga K x) fd ps (LSp (gcOf K) d.n d.sp) ∧ ps.length = d.n
theorem Okd.mono {x : Str} {d : FnD} {j k : Nat} (o : Okd p P w K mg base x d j) (h : j ≤ k) : Okd p P w K mg base x d k := by
  obtain ⟨fd, ps, h1, h2, h3, h4, h5⟩ := o
  exact ⟨fd, ps, h1, h2, h3, h4.mono h, h5⟩
/-- all that a def calls -/
def Okds (p : PD) (P : Program) (w : World) (K : PySem.W.Frag) (mg : Str → Option Value) (base : Heap) (k : Nat) : List (Str × FnD) → Prop
  | [] => True
  | q :: r => Okd p P w K mg base q.1 q.2 k ∧ Okds p P w K mg base k r
theorem Okds.mem {k : Nat} : ∀ {l : List (Str × FnD)}, Okds p P w K mg base k l → ∀ q ∈ l, Okd p P w K mg base q.1 q.2 k
  | [], _, q, h => by cases h
  | r :: l, h, q, hq => by
    rcases List.mem_cons.mp hq with rfl | hq
    · exact h.1
    · exact Okds.mem h.2 q hq
def Okk (p : PD) (P : Program) (w : World) (K : PySem.W.Frag) (mg : Str → Option Value) (base : Heap) (x : Str) (ab : List Str × List Str) (k : Nat) : Prop := ∃ (fd : FuncData) (ps : List Str), mg x = some (.ref (ga K x)) ∧ PySem.W.keepIn K (.ref (ga K x)) = true ∧ Binds K fd ps [] ∧ ps.length = 1 ∧ FnP (gcOf K) (p.tab []) P w K mg base k (ga K x) fd ps ab
theorem FnP.mono {G : GC} {T : Tab} {j k : Nat} {f : Addr} {fd : FuncData} {ps : List Str} {ab : List Str × List Str} (F : FnP G T P w K mg base j f fd ps ab) (h : j ≤ k) : FnP G T P w K mg base k f fd ps ab :=
  ⟨fun A outer s H args us i Cc p Q hr => F.run A outer s H args us i Cc p Q (hr.mono h)⟩
theorem Okk.mono {x : Str} {ab : List Str × List Str} {j k : Nat} (o : Okk p P w K mg base x ab j) (h : j ≤ k) : Okk p P w K mg base x ab k := by
  obtain ⟨fd, ps, h1, h2, h3, h4, h5⟩ := o
  exact ⟨fd, ps, h1, h2, h3, h4, h5.mono h⟩
theorem gd_saysK (g : Gd p P w K mg base) {k : Nat} {l : List (Str × FnD)} {lk : List (Str × (List Str × List Str))} (o : Okds p P w K mg base k l) (ok : ∀ q ∈ lk, Okk p P w K mg base q.1 q.2 k) : Says (gcOf K) (p.tabK l lk) P w K mg base k := by
  obtain ⟨c1, c⟩ := ba g.chk
  obtain ⟨c2, c⟩ := ba c
  obtain ⟨c3, c⟩ := ba c
  obtain ⟨c4, c⟩ := ba c
  obtain ⟨c5, c⟩ := ba c
  obtain ⟨c6, c7⟩ := ba c
  have er : ∀ x ns, (p.tabK l lk).exc x = some ns → ∃ e ∈ p.ers, e.x = x ∧ ns = e.fs := fun x ns h => by
    have h' : assoc (p.ers.map fun e => (e.x, e.fs)) x = some ns := h
    obtain ⟨e, he, h2⟩ := List.mem_map.mp (assoc_mem h')
    obtain ⟨h3, h4⟩ := Prod.mk.inj h2
    exact ⟨e, he, h3, h4.symm⟩
  refine ⟨rfl, rfl, fun x h => ?_, fun x d h => ?_, fun f d h => ?_, fun x ns h => ?_, fun x y C1 C2 h1 h2 h3 h4 => ?_, fun x y C1 v h1 h3 h4 => ?_, fun f ab h => ?_⟩
  · obtain ⟨y, hy, e⟩ := List.any_eq_true.mp h
    have e := of_decide_eq_true e
    subst e
    exact PySem.W.mg_none_of g.kin g.ns (eqO_ok (List.all_eq_true.mp c1 y hy))
  · have m := List.all_eq_true.mp c2 (x, d) (assoc_mem h)
    dsimp only at m
    split at m
    · rename_i u hu
      obtain ⟨v, h1, h2⟩ := relD_ok d u m
      exact ⟨u, v, PySem.W.mg_of g.kin g.ns hu, h1, h2⟩
    · cases m
  · obtain ⟨fd, ps, h1, h2, h3, h4, h5⟩ := Okds.mem o (f, d) (assoc_mem h)
    exact ⟨ga K f, fd, ps, h1, rfl, h2, h3, h4, h5⟩
  · obtain ⟨e, he, rfl, rfl⟩ := er x ns h
    obtain ⟨m1, m2⟩ := ba (List.all_eq_true.mp c3 e he)
    have ev : p.ers.map (fun e => erV K e) = p.ers.map ErD.val := congrArg (fun z : AlX => z.2.2) g.says
    have ev1 : erV K e = e.val := by
      obtain ⟨i, hi, hg⟩ := List.getElem_of_mem he
      have q : (p.ers.map (fun e => erV K e))[i]? = (p.ers.map ErD.val)[i]? := by rw [ev]
      rw [List.getElem?_map, List.getElem?_map, List.getElem?_eq_getElem hi, hg] at q
      exact Option.some.inj q
    obtain ⟨t, xc, no⟩ := er_ok (g.stat e he) ev1 (by rw [g.file]; exact m1)
    exact ⟨ga K e.x, PySem.W.mg_of g.kin g.ns (eqO_ok m2), rfl, t, xc, no⟩
  · cases h1
    cases h2
    obtain ⟨nx, hx⟩ := Option.isSome_iff_exists.mp h3
    obtain ⟨ny, hy⟩ := Option.isSome_iff_exists.mp h4
    obtain ⟨e, he, rfl, _⟩ := er x nx hx
    obtain ⟨f, hf, rfl, _⟩ := er y ny hy
    exact of_decide_eq_true (List.all_eq_true.mp (List.all_eq_true.mp c4 e he) f hf)
  · cases h1
    obtain ⟨nx, hx⟩ := Option.isSome_iff_exists.mp h3
    obtain ⟨e, he, rfl, _⟩ := er x nx hx
    obtain ⟨m1, m2⟩ := ba (List.all_eq_true.mp c7 e he)
    unfold yVal at h4
    split at h4
    · rename_i hy
      cases h4
      subst hy
      exact of_decide_eq_true m1
    · split at h4
      · rename_i hy
        cases h4
        obtain ⟨ny, hy⟩ := Option.isSome_iff_exists.mp hy
        obtain ⟨f, hf, rfl, _⟩ := er y ny hy
        exact of_decide_eq_true (List.all_eq_true.mp m2 f hf)
      · cases h4
  · obtain ⟨fd, ps, h1, h2, h3, h4, h5⟩ := ok (f, ab) (assoc_mem h)
    exact ⟨ga K f, fd, ps, h1, h2, h3, h4, ⟨h5.run⟩⟩
theorem gd_says (g : Gd p P w K mg base) {k : Nat} {l : List (Str × FnD)} (o : Okds p P w K mg base k l) : Says (gcOf K) (p.tab l) P w K mg base k := gd_saysK g o (fun _ h => by cases h)
theorem okd_ofK (g : Gd p P w K mg base) {i : Nat} {dd : DefD} (hi : p.defs[i]? = some dd) {x : Str} (hat : dd.at_ = (x, none)) (hdf : dd.dfl = [] ∧ dd.kwd = []) {N ps : List Str} (S : FnScope N ps dd.scope)
    (hb : ∀ (kV doc pm : Value) (an : Option Addr) (cdv ct : Value) (us : List Value), us.length = ps.length → bindArgs (PySem.W.fnOf dd.name dd.qual dd.params dd.body dd.scope .none kV doc pm an cdv ct) ⟨us, []⟩ = pure (ps.zip us))
    {d : FnD} (hn : ps.length = d.n) {k n m : Nat} {l : List (Str × FnD)} {lk : List (Str × (List Str × List Str))} (o : Okds p P w K mg base k l) (okl : ∀ q ∈ lk, Okk p P w K mg base q.1 q.2 k) {t : SS} (ht : trBody (tr n) ⟨N, dd.scope, none, true, p.tabK l lk⟩ m dd.body = some t)
    (hsp : ∀ ds S E Q, ds.length = d.n → d.sp ds S E Q → t ⟨fun _ S' => trQ S Q .non S', trQ S Q, fun x _ S' => trE S E x S', fun _ _ => False, fun _ _ => False⟩ (startD N ds) S) :
    Okd p P w K mg base x d (k + 1) := by
  obtain ⟨c1, c⟩ := ba g.chk
  obtain ⟨c2, c⟩ := ba c
  obtain ⟨c3, c⟩ := ba c
  obtain ⟨c4, c⟩ := ba c
  obtain ⟨c5, c⟩ := ba c
  obtain ⟨c6, _⟩ := ba c
  have hm : dd ∈ p.defs := List.mem_of_getElem? hi
  have m5 := List.all_eq_true.mp c5 dd hm
  have m6 := List.all_eq_true.mp c6 dd hm
  have ev : p.defs.map (fun d => fnW K d.at_) = p.defs.map DefD.val := congrArg (fun z : AlX => z.2.1) g.says
  have ev1 : fnW K dd.at_ = dd.val := by
    have q : (p.defs.map (fun d => fnW K d.at_))[i]? = (p.defs.map DefD.val)[i]? := by rw [ev]
    rw [List.getElem?_map, List.getElem?_map, hi] at q
    exact Option.some.inj q
  obtain ⟨fd, F⟩ := DefD.funD ev1 m6
  have e1 : dd.dvs K = [] := by unfold DefD.dvs; rw [hdf.1]; rfl
  have e2 : dd.kws K = [] := by unfold DefD.kws; rw [hdf.2]; rfl
  rw [e1, e2] at F
  have ea : fAd K dd.at_ = ga K x := by rw [hat]; rfl
  rw [ea] at F
  refine ⟨fd, ps, glo_ok g.kin g.ns (x := x) ?_, F.kp, F.bindsN hb, fnG_def F (gd_saysK g o okl) S hn ht hsp, hn⟩
  rw [hat] at m5
  exact m5
theorem okd_of (g : Gd p P w K mg base) {i : Nat} {dd : DefD} (hi : p.defs[i]? = some dd) {x : Str} (hat : dd.at_ = (x, none)) (hdf : dd.dfl = [] ∧ dd.kwd = []) {N ps : List Str} (S : FnScope N ps dd.scope)
    (hb : ∀ (kV doc pm : Value) (an : Option Addr) (cdv ct : Value) (us : List Value), us.length = ps.length → bindArgs (PySem.W.fnOf dd.name dd.qual dd.params dd.body dd.scope .none kV doc pm an cdv ct) ⟨us, []⟩ = pure (ps.zip us))
    {d : FnD} (hn : ps.length = d.n) {k n m : Nat} {l : List (Str × FnD)} (o : Okds p P w K mg base k l) {t : SS} (ht : trBody (tr n) ⟨N, dd.scope, none, true, p.tab l⟩ m dd.body = some t)
    (hsp : ∀ ds S E Q, ds.length = d.n → d.sp ds S E Q → t ⟨fun _ S' => trQ S Q .non S', trQ S Q, fun x _ S' => trE S E x S', fun _ _ => False, fun _ _ => False⟩ (startD N ds) S) :
    Okd p P w K mg base x d (k + 1) := okd_ofK g hi hat hdf S hb hn o (lk := []) (fun _ h => by cases h) ht hsp
theorem okk_of (g : Gd p P w K mg base) {i : Nat} {dd : DefD} (hi : p.defs[i]? = some dd) {x : Str} (hat : dd.at_ = (x, none)) (hdf : dd.dfl = [] ∧ dd.kwd = []) {N ps : List Str} (S : FnScope N ps dd.scope)
    (hb : ∀ (kV doc pm : Value) (an : Option Addr) (cdv ct : Value) (us : List Value), us.length = ps.length → bindArgs (PySem.W.fnOf dd.name dd.qual dd.params dd.body dd.scope .none kV doc pm an cdv ct) ⟨us, []⟩ = pure (ps.zip us))
    (hn : ps.length = 1) {ab : List Str × List Str} {t : SS} (ht : trKb ⟨N, dd.scope, none, false, p.tab []⟩ dd.body = some t)
    (hsp : ∀ c fs S (Q : QV), Q (.lref (S.length + 2)) (S ++ [.lst (ab.1.map fun k => .bl ((p.tab []).isa c k)), .lst (ab.2.map fun k => .bl ((p.tab []).isa c k)), .lst ((ab.1 ++ ab.2).map fun k => .bl ((p.tab []).isa c k))]) → t ⟨fun _ _ => False, Q, fun _ _ _ => False, fun _ _ => False, fun _ _ => False⟩ (startD N [.exc c fs]) S) :
    Okk p P w K mg base x ab 1 := by
  obtain ⟨c1, c⟩ := ba g.chk
  obtain ⟨c2, c⟩ := ba c
  obtain ⟨c3, c⟩ := ba c
  obtain ⟨c4, c⟩ := ba c
  obtain ⟨c5, c⟩ := ba c
  obtain ⟨c6, _⟩ := ba c
  have hm : dd ∈ p.defs := List.mem_of_getElem? hi
  have m5 := List.all_eq_true.mp c5 dd hm
  have m6 := List.all_eq_true.mp c6 dd hm
  have ev : p.defs.map (fun d => fnW K d.at_) = p.defs.map DefD.val := congrArg (fun z : AlX => z.2.1) g.says
  have ev1 : fnW K dd.at_ = dd.val := by
    have q : (p.defs.map (fun d => fnW K d.at_))[i]? = (p.defs.map DefD.val)[i]? := by rw [ev]
    rw [List.getElem?_map, List.getElem?_map, hi] at q
    exact Option.some.inj q
  obtain ⟨fd, F⟩ := DefD.funD ev1 m6
  have e1 : dd.dvs K = [] := by unfold DefD.dvs; rw [hdf.1]; rfl
  have e2 : dd.kws K = [] := by unfold DefD.kws; rw [hdf.2]; rfl
  rw [e1, e2] at F
  have ea : fAd K dd.at_ = ga K x := by rw [hat]; rfl
  rw [ea] at F
  refine ⟨fd, ps, glo_ok g.kin g.ns (x := x) ?_, F.kp, F.bindsN hb, hn, fnP_def F (gd_says g (l := []) trivial) S hn ht hsp⟩
  rw [hat] at m5
  exact m5
end
end SD

-- Xk00a
set_option Elab.async false
set_option linter.all false
set_option maxRecDepth 100000
set_option maxHeartbeats 0
namespace K00
open PySem SD
abbrev pw : Program := PySem.Challenge.pw_spacetrue_k00_errors_and_limits
def top (i : Nat) : Stmt := pw.main.body.getD i (.Pass ⟨0, 0, 0, 0⟩)
def inr (st : Stmt) (j : Nat) : Stmt := match st with
  | .ClassDef _ _ _ b _ _ _ _ _ _ _ => b.getD j (.Pass ⟨0, 0, 0, 0⟩)
  | s => s
def dfs : List He.DefD := [⟨("_law_draws", none), "_law_draws", "_law_draws", L2.defArgs (top 37), L2.defBody (top 37), L2.defScope (top 37), [], []⟩, ⟨("_law_more", none), "_law_more", "_law_more", L2.defArgs (top 38), L2.defBody (top 38), L2.defScope (top 38), [], []⟩, ⟨("_law_take", none), "_law_take", "_law_take", L2.defArgs (top 39), L2.defBody (top 39), L2.defScope (top 39), [], []⟩, ⟨("_law_one", none), "_law_one", "_law_one", L2.defArgs (top 40), L2.defBody (top 40), L2.defScope (top 40), [], []⟩, ⟨("_law_limits_right", none), "_law_limits_right", "_law_limits_right", L2.defArgs (top 41), L2.defBody (top 41), L2.defScope (top 41), [], []⟩, ⟨("_law_raise", none), "_law_raise", "_law_raise", L2.defArgs (top 42), L2.defBody (top 42), L2.defScope (top 42), [], []⟩, ⟨("_law_kinds", none), "_law_kinds", "_law_kinds", L2.defArgs (top 43), L2.defBody (top 43), L2.defScope (top 43), [], []⟩, ⟨("_law_caught", none), "_law_caught", "_law_caught", L2.defArgs (top 44), L2.defBody (top 44), L2.defScope (top 44), [], []⟩, ⟨("_law_fields", none), "_law_fields", "_law_fields", L2.defArgs (top 45), L2.defBody (top 45), L2.defScope (top 45), [], []⟩, ⟨("law", none), "law", "law", L2.defArgs (top 46), L2.defBody (top 46), L2.defScope (top 46), [], []⟩]
def ers : List ErD := [⟨"SpaceError", [], "", ⟨[], [], none, [], [], none, []⟩, [], ⟨.function, [], false, false, []⟩⟩, ⟨"ReasonError", ["reason"], "ReasonError.__init__", L2.defArgs (inr (top 2) 0), L2.defBody (inr (top 2) 0), L2.defScope (inr (top 2) 0)⟩, ⟨"ArgumentError", ["reason"], "ReasonError.__init__", L2.defArgs (inr (top 2) 0), L2.defBody (inr (top 2) 0), L2.defScope (inr (top 2) 0)⟩, ⟨"CheckError", ["reason"], "ReasonError.__init__", L2.defArgs (inr (top 2) 0), L2.defBody (inr (top 2) 0), L2.defScope (inr (top 2) 0)⟩, ⟨"PaperError", ["reason"], "ReasonError.__init__", L2.defArgs (inr (top 2) 0), L2.defBody (inr (top 2) 0), L2.defScope (inr (top 2) 0)⟩, ⟨"TooMany", ["reason"], "ReasonError.__init__", L2.defArgs (inr (top 2) 0), L2.defBody (inr (top 2) 0), L2.defScope (inr (top 2) 0)⟩, ⟨"TextError", ["at"], "TextError.__init__", L2.defArgs (inr (top 7) 0), L2.defBody (inr (top 7) 0), L2.defScope (inr (top 7) 0)⟩, ⟨"LogError", ["number", "reason"], "LogError.__init__", L2.defArgs (inr (top 8) 0), L2.defBody (inr (top 8) 0), L2.defScope (inr (top 8) 0)⟩, ⟨"CommandError", ["line"], "CommandError.__init__", L2.defArgs (inr (top 9) 0), L2.defBody (inr (top 9) 0), L2.defScope (inr (top 9) 0)⟩]
abbrev g_MAX_NUMBER : D := .int 1000000
abbrev g_MAX_CORNERS : D := .int 12
abbrev g_MAX_GROUP : D := .int 48
abbrev g_MAX_TEXT : D := .int 6000
abbrev g_MAX_LINES : D := .int 200
abbrev g_MAX_BALLS : D := .int 8
abbrev g_MAX_ENTRY : D := .int 100000
abbrev g_MAX_WORD : D := .int 400
abbrev g_MAX_FORM : D := .int 100000
abbrev g_MAX_CYCLE : D := .int 4000
abbrev g_MAX_FACED : D := .int 24
abbrev g_MAX_TURNED : D := .int 60
abbrev g_MAX_CELLS : D := .int 40
abbrev g_MAX_MIRRORS : D := .int 12
abbrev g_MAX_ROUNDS : D := .int 60
abbrev g_MAX_THINGS : D := .int 60
abbrev g_MAX_CLIPPED : D := .int 24
abbrev g_MAX_STARS : D := .int 8
abbrev g_MAX_LINED : D := .int 12
abbrev g_MAX_WHOLE : D := .int 1000
abbrev g_MAX_BOXED : D := .int 4000
abbrev g_MAX_TRIED : D := .int 4000
abbrev g_MAX_SIDED : D := .int 12
abbrev g_MAX_TILES : D := .int 600
abbrev g_MAX_AROUND : D := .int 6
abbrev g_MAX_GON : D := .int 60
def gls : List (Str × D) := [("MAX_NUMBER", g_MAX_NUMBER), ("MAX_CORNERS", g_MAX_CORNERS), ("MAX_GROUP", g_MAX_GROUP), ("MAX_TEXT", g_MAX_TEXT), ("MAX_LINES", g_MAX_LINES), ("MAX_BALLS", g_MAX_BALLS), ("MAX_ENTRY", g_MAX_ENTRY), ("MAX_WORD", g_MAX_WORD), ("MAX_FORM", g_MAX_FORM), ("MAX_CYCLE", g_MAX_CYCLE), ("MAX_FACED", g_MAX_FACED), ("MAX_TURNED", g_MAX_TURNED), ("MAX_CELLS", g_MAX_CELLS), ("MAX_MIRRORS", g_MAX_MIRRORS), ("MAX_ROUNDS", g_MAX_ROUNDS), ("MAX_THINGS", g_MAX_THINGS), ("MAX_CLIPPED", g_MAX_CLIPPED), ("MAX_STARS", g_MAX_STARS), ("MAX_LINED", g_MAX_LINED), ("MAX_WHOLE", g_MAX_WHOLE), ("MAX_BOXED", g_MAX_BOXED), ("MAX_TRIED", g_MAX_TRIED), ("MAX_SIDED", g_MAX_SIDED), ("MAX_TILES", g_MAX_TILES), ("MAX_AROUND", g_MAX_AROUND), ("MAX_GON", g_MAX_GON)]
def isas : List (Str × Str) := [("SpaceError", "SpaceError"), ("ReasonError", "ReasonError"), ("ReasonError", "SpaceError"), ("ArgumentError", "ArgumentError"), ("ArgumentError", "ReasonError"), ("ArgumentError", "SpaceError"), ("CheckError", "CheckError"), ("CheckError", "ReasonError"), ("CheckError", "SpaceError"), ("PaperError", "PaperError"), ("PaperError", "ReasonError"), ("PaperError", "SpaceError"), ("TooMany", "TooMany"), ("TooMany", "ReasonError"), ("TooMany", "SpaceError"), ("TextError", "TextError"), ("TextError", "SpaceError"), ("LogError", "LogError"), ("LogError", "SpaceError"), ("CommandError", "CommandError"), ("CommandError", "SpaceError"), ("SpaceError", "ValueError"), ("ReasonError", "ValueError"), ("ArgumentError", "ValueError"), ("CheckError", "ValueError"), ("PaperError", "ValueError"), ("TooMany", "ValueError"), ("TextError", "ValueError"), ("LogError", "ValueError"), ("CommandError", "ValueError")]
def pd : PD := ⟨dfs, ers, gls, isas, pw.main.file⟩
end K00

-- Hk00
set_option Elab.async false
set_option linter.all false
set_option maxRecDepth 100000
set_option maxHeartbeats 0
namespace K00
open PySem L2 SD He PyProof.Rows
abbrev R : PySem.W.OpenRow := PySem.W.OpenLaw.row PySem.Challenge.rw_spacetrue_k00_errors_and_limits
/-- the looks at the objects of told places -/
def obsA (as : List Addr) (p : PD) (g : Addr → Option Obj) : AlX := p.obs (frG g as)
def hookA (as : List Addr) (p : PD) : PySem.W.Hook where
  α := AlX
  obs := fun s => obsA as p s.heap.get?
  val := fun _ => p.val
  says := fun _ h => ∃ K : PySem.W.Frag, K.In h ∧ SaysX p K
  of := fun _ _ e => ⟨_, frG_in, e⟩
  keeps := fun _ _ _ ⟨K, hK, c⟩ k => ⟨K, PySem.W.Frag.In.keeps hK k, c⟩
theorem obsA_eq {as : List Addr} {p : PD} {g : Addr → Option Obj} {s : Shared} (h : ∀ a, g a = s.heap.get? a) : obsA as p g = (hookA as p).obs s := by
  have e : g = s.heap.get? := funext h
  rw [e] <;> rfl
def ad0 : List Addr := [2, 3, 6, 4, 24, 46, 58, 70, 82, 94, 115, 136, 157, 166, 173, 180, 187, 194, 201, 208, 215, 222, 227, 0, 23, 45, 57, 69, 81, 93]
def ad1 : List Addr := [114, 135, 156, 165, 172, 179, 186, 193, 200, 207, 214, 221, 226, 22, 25, 43, 44, 56, 68, 80, 92, 112, 113, 133, 134, 154, 155, 160, 161, 162]
def ad2 : List Addr := [163, 164, 167, 168, 169, 170, 171, 174, 175, 176, 177, 178, 181, 182, 183, 184, 185, 188, 189, 190, 191, 192, 195, 196, 197, 198, 199, 202, 203, 204]
def ad3 : List Addr := [205, 206, 209, 210, 211, 212, 213, 216, 217, 218, 219, 220, 223, 224, 225, 42, 31, 111, 100, 132, 121, 153, 142, 37, 38, 39, 40, 41, 106, 107]
def ad4 : List Addr := [108, 109, 110, 127, 128, 129, 130, 131, 148, 149, 150, 151, 152]
def ads : List Addr := ad0 ++ (ad1 ++ (ad2 ++ (ad3 ++ (ad4))))
abbrev hk : PySem.W.Hook := hookA ads pd
def ob (s : PySem.W.SharedT) : AlX := obsA ads pd (HandSHeadRun.getT s)
theorem ob_eq (s : PySem.W.SharedT) : ob s = hk.obs s.abs := obsA_eq (HandSHeadRun.getT_eq s)
def nm0 : List Str := ["SpaceError", "ReasonError", "ArgumentError", "CheckError", "PaperError", "TooMany", "TextError", "LogError", "CommandError", "MAX_NUMBER", "MAX_CORNERS", "MAX_GROUP", "MAX_TEXT", "MAX_LINES", "MAX_BALLS", "MAX_ENTRY", "MAX_WORD", "MAX_FORM", "MAX_CYCLE", "MAX_FACED", "MAX_TURNED", "MAX_CELLS", "MAX_MIRRORS", "MAX_ROUNDS", "MAX_THINGS", "MAX_CLIPPED", "MAX_STARS", "MAX_LINED", "MAX_WHOLE", "MAX_BOXED"]
def nm1 : List Str := ["MAX_TRIED", "MAX_SIDED", "MAX_TILES", "MAX_AROUND", "MAX_GON", "_law_draws", "_law_more", "_law_take", "_law_one", "_law_limits_right", "_law_raise", "_law_kinds", "_law_caught", "_law_fields"]
def nms : List Str := nm0 ++ nm1
theorem run (w : World) : HandSHeadRun.RunEq R (PySem.W.view R.prog [46]) hk ob 6000 nms w := by
  intro os
  kernel_rfl
end K00

-- SD24
set_option Elab.async false
set_option linter.all false
set_option maxRecDepth 100000
set_option maxHeartbeats 1000000
namespace SD
open PySem L2
/-! ### a def's promise, over data alone -/
def dE (S : Store) (E : QX) (Q : QV) : DEnds := ⟨fun _ S' => trQ S Q .non S', trQ S Q, fun x _ S' => trE S E x S', fun _ _ => False, fun _ _ => False⟩
def Meets (d : FnD) (N : List Str) (t : SS) : Prop := ∀ ds S E Q, ds.length = d.n → d.sp ds S E Q → t (dE S E Q) (startD N ds) S
theorem cutS_app (S g : Store) : cutS S (S ++ g) S := ⟨Nat.le_refl _, ⟨g, rfl⟩, fun _ _ h => .inl h⟩
theorem trQ_app {S g : Store} {Q : QV} {r : D} (h : clD S.length r = true) (q : Q r S) : trQ S Q r (S ++ g) := ⟨S, cutS_app S g, h, q⟩
theorem trQ_self {S : Store} {Q : QV} {r : D} (h : clD S.length r = true) (q : Q r S) : trQ S Q r S := ⟨S, ⟨Nat.le_refl _, ⟨[], by simp⟩, fun _ _ h => .inl h⟩, h, q⟩
theorem trE_app {S g : Store} {E : QX} {x : Exn} (h : clF S.length x.fs = true) (q : E x S) : trE S E x (S ++ g) := ⟨S, cutS_app S g, h, q⟩
theorem trE_self {S : Store} {E : QX} {x : Exn} (h : clF S.length x.fs = true) (q : E x S) : trE S E x S := ⟨S, ⟨Nat.le_refl _, ⟨[], by simp⟩, fun _ _ h => .inl h⟩, h, q⟩
/-- a new list -/
theorem trQ_new {S g : Store} {Q : QV} {xs : List D} (h : clDs S.length xs = true) (q : Q (.lref S.length) (S ++ [.lst xs])) : trQ S Q (.lref S.length) (S ++ (.lst xs :: g)) := by
  refine ⟨S ++ [.lst xs], ⟨by simp, ⟨g, by simp⟩, fun k c hk => ?_⟩, by unfold clD; exact decide_eq_true (by simp), q⟩
  by_cases hl : k < S.length
  · rw [List.getElem?_append_left hl] at hk
    exact .inl hk
  · rw [List.getElem?_append_right (Nat.le_of_not_lt hl)] at hk
    have e : k - S.length = 0 := by
      have := (List.getElem?_eq_some_iff.mp hk).1
      simp at this
      omega
    rw [e] at hk
    simp at hk
    subst hk
    refine .inr ?_
    unfold clC
    exact cls_mono (by simp) xs h
/-! ### walking a text -/
theorem look_zero {d : D} {env : Env} {Q : D → Prop} : look (some d :: env) 0 Q = Q d := rfl
theorem look_succ {a : Option D} {env : Env} {n : Nat} {Q : D → Prop} : look (a :: env) (n + 1) Q = look env n Q := rfl
theorem cellL_new {S : Store} {xs : List D} {Q : List D → Prop} : cellL (S ++ [.lst xs]) S.length Q = Q xs := by
  unfold cellL
  rw [List.getElem?_append_right (Nat.le_refl _)]
  simp
theorem cellL_at {S g : Store} {k : Nat} {Q : List D → Prop} : cellL (S ++ g) (S.length + k) Q = cellL g k Q := by
  unfold cellL
  rw [List.getElem?_append_right (Nat.le_add_right _ _)]
  simp
theorem cellL_head {S g : Store} {c : Cell} {Q : List D → Prop} : cellL (S ++ c :: g) S.length Q = cellL (c :: g) 0 Q := by
  unfold cellL
  rw [List.getElem?_append_right (Nat.le_refl _)]
  simp
theorem cellL_zero {g : Store} {xs : List D} {Q : List D → Prop} : cellL (.lst xs :: g) 0 Q = Q xs := rfl
theorem cellL_succ {g : Store} {c : Cell} {k : Nat} {Q : List D → Prop} : cellL (c :: g) (k + 1) Q = cellL g k Q := rfl
theorem set_head {S g : Store} {c c' : Cell} : (S ++ c :: g).set S.length c' = S ++ c' :: g := by simp
theorem set_at {S g : Store} {k : Nat} {c' : Cell} : (S ++ g).set (S.length + k) c' = S ++ g.set k c' := by simp
theorem cellL_known {S : Store} {k : Nat} {xs : List D} {Q : List D → Prop} (h : S[k]? = some (.lst xs)) : cellL S k Q = Q xs := by unfold cellL; rw [h]
theorem cellL_old {S g : Store} {k : Nat} {xs : List D} {Q : List D → Prop} (h : S[k]? = some (.lst xs)) : cellL (S ++ g) k Q = Q xs := by
  unfold cellL
  rw [List.getElem?_append_left (List.getElem?_eq_some_iff.mp h).1, h]
theorem atI_0 {a : α} {l : List α} : atI (a :: l) 0 = some a := by
  unfold atI ixN
  simp
theorem atI_1 {a b : α} {l : List α} : atI (a :: b :: l) 1 = some b := by
  unfold atI ixN
  simp
  rw [if_pos (by omega)]
  rfl
theorem atI_2 {a b c : α} {l : List α} : atI (a :: b :: c :: l) 2 = some c := by
  unfold atI ixN
  simp
  rw [if_pos (by omega)]
  rfl
theorem atI_3 {a b c d : α} {l : List α} : atI (a :: b :: c :: d :: l) 3 = some d := by
  unfold atI ixN
  simp
  rw [if_pos (by omega)]
  rfl
theorem whileN_go {t : ST} {b : SS} {D : DEnds} {n : Nat} {env : Env} {S : Store} : whileN t b D (n + 1) env S = t env S (fun x S1 => D.ex x env S1) fun k S1 => if k = true then b { D with nx := whileN t b D n, ct := whileN t b D n, bk := D.nx } env S1 else D.nx env S1 := rfl
/-! the readings, applied -/
section
variable {D : DEnds} {env : Env} {S : Store} {E : QX} {Q : QV} {T : Tab} {a b c : SE} {t u : ST} {s s2 : SS} {r : List SS} {es : List SE} {d : SD.D} {QB : QB} {QN : QN} {g : SG} {gs : List SG} {it : SI} {i j : Nat} {body : SS} {x : Str}
theorem ev_nil : sSeq [] D env S = D.nx env S := rfl
theorem ev_seq : sSeq (s :: r) D env S = s { D with nx := sSeq r D } env S := rfl
theorem ev_next : sNext D env S = D.nx env S := rfl
theorem ev_break : sBreak D env S = D.bk env S := rfl
theorem ev_cont : sCont D env S = D.ct env S := rfl
theorem ev_expr : sExpr a D env S = a env S (fun x S1 => D.ex x env S1) fun _ S1 => D.nx env S1 := rfl
theorem ev_ret : sRet a D env S = a env S (fun x S1 => D.ex x env S1) D.rt := rfl
theorem ev_retN : sRetN D env S = D.rt .non S := rfl
theorem ev_asg : sAsg a g D env S = a env S (fun x S1 => D.ex x env S1) fun d S1 => g d env S1 noX D.nx := rfl
theorem ev_aug {f : SD.D → SD.D → Store → QV → Prop} : augD f i a D env S = look env i fun x => a env S (fun x S1 => D.ex x env S1) fun y S1 => f x y S1 fun z S2 => D.nx (env.set i (some z)) S2 := rfl
theorem ev_if : sIf t s s2 D env S = t env S (fun x S1 => D.ex x env S1) fun k S1 => if k = true then s D env S1 else s2 D env S1 := rfl
theorem ev_for : sFor it g body D env S = it env S (fun x S1 => D.ex x env S1) fun ds keep S1 => forLoop keep g body D ds env S1 := rfl
theorem ev_raise : sRaise T x es D env S = (match T.exc x with
  | some ns => eList es env S (fun x S1 => D.ex x env S1) fun ds S1 => ds.length = ns.length ∧ D.ex ⟨x, ns.zip ds⟩ env S1
  | none => False) := rfl
theorem ev_try {hs : List (Str × Nat × SE)} : sTry T body hs D env S = body { D with ex := sHands T D hs } env S := rfl
theorem ev_var : eVar i env S E Q = look env i fun d => Q d S := rfl
theorem ev_c : eC d env S E Q = Q d S := rfl
theorem ev_glob : eGlob T x env S E Q = (match T.glob x with
  | some d => Q d S
  | none => False) := rfl
theorem ev_tup : eTup es env S E Q = eList es env S E fun ds S1 => Q (.tup ds) S1 := rfl
theorem ev_lst : eLst es env S E Q = eList es env S E fun ds S1 => Q (.lref S1.length) (S1 ++ [.lst ds]) := rfl
theorem ev_bin {f : SD.D → SD.D → Store → QV → Prop} : eBin f a b env S E Q = a env S E fun x S1 => b env S1 E fun y S2 => f x y S2 Q := rfl
theorem ev_un {f : SD.D → Store → QV → Prop} : eUn f a env S E Q = a env S E fun x S1 => f x S1 Q := rfl
theorem ev_b1 {f : SD.D → Store → QV → Prop} : eB1 f a env S E Q = a env S E fun x S1 => f x S1 Q := rfl
theorem ev_tE : tE a env S E QB = a env S E fun x S1 => truthD x S1 fun b => QB b S1 := rfl
theorem ev_tNot : tNot t env S E QB = t env S E fun b S1 => QB (!b) S1 := rfl
theorem ev_tAnd : tAnd t u env S E QB = t env S E fun b S1 => if b = true then u env S1 E QB else QB false S1 := rfl
theorem ev_tOr : tOr t u env S E QB = t env S E fun b S1 => if b = true then QB true S1 else u env S1 E QB := rfl
theorem ev_tYes : tYes env S E QB = QB true S := rfl
theorem ev_not : eNot a env S E Q = a env S E fun x S1 => truthD x S1 fun b => Q (.bl (!b)) S1 := rfl
theorem ev_and : eAnd a b env S E Q = a env S E fun x S1 => truthD x S1 fun k => if k = true then b env S1 E Q else Q x S1 := rfl
theorem ev_or : eOr a b env S E Q = a env S E fun x S1 => truthD x S1 fun k => if k = true then Q x S1 else b env S1 E Q := rfl
theorem ev_ifE : eIf t a b env S E Q = t env S E fun k S1 => if k = true then a env S1 E Q else b env S1 E Q := rfl
theorem ev_cmp {o : COp} : eCmp o a b env S E Q = a env S E fun x S1 => b env S1 E fun y S2 => cmpK o x y S2 fun k => Q (.bl k) S2 := rfl
theorem ev_chain {o o' : COp} : eChain o o' a b c env S E Q = a env S E fun x S1 => b env S1 E fun y S2 => cmpK o x y S2 fun k =>
  if k = true then c env S2 E fun z S3 => cmpK o' y z S3 fun k' => Q (.bl k') S3 else Q (.bl false) S2 := rfl
theorem ev_ix : eIx a b env S E Q = a env S E fun x S1 => b env S1 E fun y S2 => ixD x y S2 Q := rfl
theorem ev_slice {lo hi : Option SE} : eSlice a lo hi env S E Q = a env S E fun x S1 => ePart lo env S1 E fun l S2 => ePart hi env S2 E fun h S3 => sliceD x l h S3 Q := rfl
theorem ev_part1 {QP : Option Int → Store → Prop} : ePart (some a) env S E QP = a env S E fun x S1 => match x with
    | .int i => QP (some i) S1
    | _ => False := rfl
theorem ev_part0 {QP : Option Int → Store → Prop} : ePart none env S E QP = QP none S := rfl
theorem ev_call : eCall T x es env S E Q = (match T.sp x with
  | some f => es.length = f.n ∧ eList es env S E fun ds S1 => f.sp ds S1 E Q
  | none => False) := rfl
theorem ev_callV : eCallV T a es env S E Q = a env S E fun x S0 => match x with
  | .fn n => (match T.sp n with
    | some f => es.length = f.n ∧ eList es env S0 E fun ds S1 => f.sp ds S1 E Q
    | none => False)
  | _ => False := rfl
theorem ev_app : eApp a b env S E Q = a env S E fun x S1 => match x with
  | .lref k => b env S1 E fun y S2 => appendD (.lref k) y S2 Q
  | _ => False := rfl
theorem ev_gVar : gVar i d env S E QN = QN (env.set i (some d)) S := rfl
theorem ev_gTup : gTup gs d env S E QN = (match d with
  | .tup ds => ds.length = gs.length ∧ gSeq gs ds env S E QN
  | .lref k => cellL S k fun ds => ds.length = gs.length ∧ gSeq gs ds env S E QN
  | _ => False) := rfl
theorem ev_gIx : gIx a b d env S E QN = a env S E fun x S1 => b env S1 E fun y S2 => setD x y d S2 fun S3 => QN env S3 := rfl
section
variable {QI : List SD.D → (Store → Prop) → Store → Prop} {own : List Nat}
theorem ev_iE : iE a env S E QI = a env S E fun x S1 => iterD x S1 QI := rfl
theorem ev_iRange1 : iRange1 a env S E QI = a env S E fun x S1 => match x with
  | .int j => (-(2 ^ 62) ≤ j ∧ j < 2 ^ 62) ∧ QI (iRange 0 j) (fun _ => True) S1
  | _ => False := rfl
theorem ev_iRange2 : iRange2 a b env S E QI = a env S E fun x S1 => b env S1 E fun y S2 => match x, y with
  | .int i, .int j => (-(2 ^ 62) ≤ i ∧ i < 2 ^ 62 ∧ -(2 ^ 62) ≤ j ∧ j < 2 ^ 62) ∧ QI (iRange i j) (fun _ => True) S2
  | _, _ => False := rfl
theorem ev_iZip : iZip a b env S E QI = a env S E fun x S1 => b env S1 E fun y S2 => zipD x y S2 QI := rfl
theorem ev_comp : eComp it own g t a env S E Q = cComp it own g t a env S E fun ys S1 => Q (.lref S1.length) (S1 ++ [.lst ys]) := rfl
theorem ev_tupC : eTupC it own g t a env S E Q = cComp it own g t a env S E fun ys S1 => Q (.tup ys) S1 := rfl
theorem ev_allC : eAllC it own g t a env S E Q = cComp it own g t a env S E fun ys S1 => allD ys S1 Q := rfl
theorem ev_anyC : eAnyC it own g t a env S E Q = cComp it own g t a env S E fun ys S1 => anyD ys S1 Q := rfl
theorem ev_cComp {QL : QL} : cComp it own g t a env S E QL = it env S E fun ds keep S1 => ds.length ≤ sizeLine ∧ compLoop keep g t a (wipeE env own) ds S1 QL := rfl
end
theorem isa_of {us : List String} {k : String} (h : tyD d = some k) : isaD us d S Q = Q (.bl (us.any (isTy k))) S := by unfold isaD; rw [h]
end
theorem isa_NoneType_int : (["int"] : List String).any (isTy "NoneType") = false := by decide
theorem isa_NoneType_bool : (["bool"] : List String).any (isTy "NoneType") = false := by decide
theorem isa_NoneType_str : (["str"] : List String).any (isTy "NoneType") = false := by decide
theorem isa_NoneType_tuple : (["tuple"] : List String).any (isTy "NoneType") = false := by decide
theorem isa_NoneType_list : (["list"] : List String).any (isTy "NoneType") = false := by decide
theorem isa_bool_int : (["int"] : List String).any (isTy "bool") = true := by decide
theorem isa_bool_bool : (["bool"] : List String).any (isTy "bool") = true := by decide
theorem isa_bool_str : (["str"] : List String).any (isTy "bool") = false := by decide
theorem isa_bool_tuple : (["tuple"] : List String).any (isTy "bool") = false := by decide
theorem isa_bool_list : (["list"] : List String).any (isTy "bool") = false := by decide
theorem isa_int_int : (["int"] : List String).any (isTy "int") = true := by decide
theorem isa_int_bool : (["bool"] : List String).any (isTy "int") = false := by decide
theorem isa_int_str : (["str"] : List String).any (isTy "int") = false := by decide
theorem isa_int_tuple : (["tuple"] : List String).any (isTy "int") = false := by decide
theorem isa_int_list : (["list"] : List String).any (isTy "int") = false := by decide
theorem isa_str_int : (["int"] : List String).any (isTy "str") = false := by decide
theorem isa_str_bool : (["bool"] : List String).any (isTy "str") = false := by decide
theorem isa_str_str : (["str"] : List String).any (isTy "str") = true := by decide
theorem isa_str_tuple : (["tuple"] : List String).any (isTy "str") = false := by decide
theorem isa_str_list : (["list"] : List String).any (isTy "str") = false := by decide
theorem isa_tuple_int : (["int"] : List String).any (isTy "tuple") = false := by decide
theorem isa_tuple_bool : (["bool"] : List String).any (isTy "tuple") = false := by decide
theorem isa_tuple_str : (["str"] : List String).any (isTy "tuple") = false := by decide
theorem isa_tuple_tuple : (["tuple"] : List String).any (isTy "tuple") = true := by decide
theorem isa_tuple_list : (["list"] : List String).any (isTy "tuple") = false := by decide
theorem isa_list_int : (["int"] : List String).any (isTy "list") = false := by decide
theorem isa_list_bool : (["bool"] : List String).any (isTy "list") = false := by decide
theorem isa_list_str : (["str"] : List String).any (isTy "list") = false := by decide
theorem isa_list_tuple : (["tuple"] : List String).any (isTy "list") = false := by decide
theorem isa_list_list : (["list"] : List String).any (isTy "list") = true := by decide
theorem ty_non : tyD .non = some "NoneType" := rfl
theorem ty_bl {b : Bool} : tyD (.bl b) = some "bool" := rfl
theorem ty_int {i : Int} : tyD (.int i) = some "int" := rfl
theorem ty_str {x : Str} : tyD (.str x) = some "str" := rfl
theorem ty_tup {xs : List D} : tyD (.tup xs) = some "tuple" := rfl
theorem ty_lref {k : Nat} : tyD (.lref k) = some "list" := rfl
theorem isa_non {us : List String} {S : Store} {Q : QV} : isaD us .non S Q = Q (.bl (us.any (isTy "NoneType"))) S := rfl
theorem isa_bl {us : List String} {b : Bool} {S : Store} {Q : QV} : isaD us (.bl b) S Q = Q (.bl (us.any (isTy "bool"))) S := rfl
theorem isa_int {us : List String} {i : Int} {S : Store} {Q : QV} : isaD us (.int i) S Q = Q (.bl (us.any (isTy "int"))) S := rfl
theorem isa_str {us : List String} {x : Str} {S : Store} {Q : QV} : isaD us (.str x) S Q = Q (.bl (us.any (isTy "str"))) S := rfl
theorem isa_tup {us : List String} {xs : List D} {S : Store} {Q : QV} : isaD us (.tup xs) S Q = Q (.bl (us.any (isTy "tuple"))) S := rfl
theorem isa_lref {us : List String} {k : Nat} {S : Store} {Q : QV} : isaD us (.lref k) S Q = Q (.bl (us.any (isTy "list"))) S := rfl
theorem ite_tt {p q : Prop} : (if true = true then p else q) = p := if_pos rfl
theorem ite_ff {p q : Prop} : (if false = true then p else q) = q := if_neg Bool.false_ne_true
theorem add_1 {i j : Int} {S : Store} {Q : QV} : addD (.int i) (.int j) S Q = Q (.int (i + j)) S := rfl
theorem add_2 {i j : Str} {S : Store} {Q : QV} : addD (.str i) (.str j) S Q = (i.length + j.length ≤ sizeLine ∧ Q (.str (i ++ j)) S) := rfl
theorem add_3 {i j : List D} {S : Store} {Q : QV} : addD (.tup i) (.tup j) S Q = (i.length + j.length ≤ sizeLine ∧ Q (.tup (i ++ j)) S) := rfl
theorem add_4 {a b : Nat} {S : Store} {Q : QV} : addD (.lref a) (.lref b) S Q = cellL S a fun xs => cellL S b fun ys => xs.length + ys.length ≤ sizeLine ∧ Q (.lref S.length) (S ++ [.lst (xs ++ ys)]) := rfl
theorem sub_1 {i j : Int} {S : Store} {Q : QV} : subD (.int i) (.int j) S Q = Q (.int (i - j)) S := rfl
theorem sub_2 {i j : Bool} {S : Store} {Q : QV} : subD (.bl i) (.bl j) S Q = Q (.int (b2i i - b2i j)) S := rfl
theorem mul_1 {i j : Int} {S : Store} {Q : QV} : mulD (.int i) (.int j) S Q = (mulOk i j ∧ Q (.int (i * j)) S) := rfl
theorem mul_2 {a : Nat} {n : Int} {S : Store} {Q : QV} : mulD (.lref a) (.int n) S Q = cellL S a fun xs => -(2 ^ 63) ≤ n ∧ n < 2 ^ 63 ∧ xs.length * n.toNat ≤ sizeLine ∧ Q (.lref S.length) (S ++ [.lst (List.replicate n.toNat xs).flatten]) := rfl
theorem fdiv_1 {i j : Int} {S : Store} {Q : QV} : fdivD (.int i) (.int j) S Q = ((j ≠ 0 ∧ j.natAbs.log2 < 9000) ∧ Q (.int (i.fdiv j)) S) := rfl
theorem mod_1 {i j : Int} {S : Store} {Q : QV} : modD (.int i) (.int j) S Q = (j ≠ 0 ∧ Q (.int (i.fmod j)) S) := rfl
theorem pow_1 {i j : Int} {S : Store} {Q : QV} : powD (.int i) (.int j) S Q = ((0 ≤ j ∧ j ≤ 1000000 ∧ i.natAbs < 2 ^ 64) ∧ Q (.int (i ^ j.toNat)) S) := rfl
theorem neg_1 {i : Int} {S : Store} {Q : QV} : negD (.int i) S Q = Q (.int (-i)) S := rfl
section
variable {K : Bool → Prop} {S : Store} {x y : D}
theorem tr_non : truthD .non S K = K false := rfl
theorem tr_bl {b : Bool} : truthD (.bl b) S K = K b := rfl
theorem tr_int {i : Int} : truthD (.int i) S K = K (i != 0) := rfl
theorem tr_str {x : Str} : truthD (.str x) S K = (x.length ≤ sizeLine ∧ K (x.length != 0)) := rfl
theorem tr_tup {xs : List D} : truthD (.tup xs) S K = K (!xs.isEmpty) := rfl
theorem tr_lref {k : Nat} : truthD (.lref k) S K = cellL S k fun xs => K (!xs.isEmpty) := rfl
theorem lt_1 {i j : Int} : ltK (.int i) (.int j) S K = K (decide (i < j)) := rfl
theorem le_1 {i j : Int} : leK (.int i) (.int j) S K = K (decide (i ≤ j)) := rfl
theorem is_1 : isK .non .non S K = K true := rfl
theorem is_2 {b : Bool} : isK (.bl b) .non S K = K false := rfl
theorem is_3 {i : Int} : isK (.int i) .non S K = K false := rfl
theorem is_4 {x : Str} : isK (.str x) .non S K = K false := rfl
theorem is_5 {xs : List D} : isK (.tup xs) .non S K = K false := rfl
theorem is_6 {k : Nat} : isK (.lref k) .non S K = K false := rfl
theorem is_7 {a b : Bool} : isK (.bl a) (.bl b) S K = K (decide (a = b)) := rfl
theorem cmp_eq : cmpK .eq x y S K = eqK x y S K := rfl
theorem cmp_ne : cmpK .ne x y S K = eqK x y S fun b => K (!b) := rfl
theorem cmp_lt : cmpK .lt x y S K = ltK x y S K := rfl
theorem cmp_le : cmpK .le x y S K = leK x y S K := rfl
theorem cmp_gt : cmpK .gt x y S K = ltK y x S K := rfl
theorem cmp_ge : cmpK .ge x y S K = leK y x S K := rfl
theorem cmp_is : cmpK .is_ x y S K = isK x y S K := rfl
theorem cmp_isnot : cmpK .isnot x y S K = isK x y S fun b => K (!b) := rfl
theorem cmp_in : cmpK .in_ x y S K = inK x y S K := rfl
theorem cmp_notin : cmpK .notin x y S K = inK x y S fun b => K (!b) := rfl
theorem eqk_int {i j : Int} : eqK (.int i) (.int j) S K = K (decide (i = j)) := by
  show (((okD 20 (.int i) = true) ∧ (okD 20 (.int j) = true)) ∧ K (i == j)) = _
  have h1 : okD 20 (.int i) = true := rfl
  have h2 : okD 20 (.int j) = true := rfl
  simp only [h1, h2, and_self, true_and]
  congr 1
theorem eqk_bl {a b : Bool} : eqK (.bl a) (.bl b) S K = K (a == b) := by
  show (((okD 20 (.bl a) = true) ∧ (okD 20 (.bl b) = true)) ∧ K (a == b)) = _
  have h1 : okD 20 (.bl a) = true := rfl
  have h2 : okD 20 (.bl b) = true := rfl
  simp only [h1, h2, and_self, true_and]
end
section
variable {S : Store} {Q : QV} {xs ys : List D} {i : Int} {k j : Nat} {QI : List D → (Store → Prop) → Store → Prop}
theorem ix_tup : ixD (.tup xs) (.int i) S Q = (match atI xs i with
  | some d => Q d S
  | none => False) := rfl
theorem ix_lref : ixD (.lref k) (.int i) S Q = cellL S k fun xs => match atI xs i with
    | some d => Q d S
    | none => False := rfl
theorem len_tup : lenD (.tup xs) S Q = Q (.int xs.length) S := rfl
theorem len_lref : lenD (.lref k) S Q = cellL S k fun xs => Q (.int xs.length) S := rfl
theorem len_str {x : Str} : lenD (.str x) S Q = (x.length ≤ sizeLine ∧ Q (.int x.length) S) := rfl
theorem abs_int : absD (.int i) S Q = Q (.int (if i < 0 then -i else i)) S := rfl
theorem int_int : intD (.int i) S Q = Q (.int i) S := rfl
theorem int_bl {b : Bool} : intD (.bl b) S Q = Q (.int (b2i b)) S := rfl
theorem tuple_tup : tupleD (.tup xs) S Q = Q (.tup xs) S := rfl
theorem tuple_lref : tupleD (.lref k) S Q = cellL S k fun xs => Q (.tup xs) S := rfl
theorem list_tup : listD (.tup xs) S Q = Q (.lref S.length) (S ++ [.lst xs]) := rfl
theorem list_lref : listD (.lref k) S Q = cellL S k fun xs => Q (.lref S.length) (S ++ [.lst xs]) := rfl
theorem witer_tup : iterD (.tup xs) S QI = QI xs (fun _ => True) S := rfl
theorem witer_lref : iterD (.lref k) S QI = cellL S k fun xs => QI xs (fun S' => S'[k]? = some (.lst xs)) S := rfl
theorem wzip_tup : zipD (.tup xs) (.tup ys) S QI = QI (pairs xs ys) (fun _ => True) S := rfl
theorem wipe_nil {env : Env} : wipeE env [] = env := rfl
theorem wipe_cons {env : Env} {v : Nat} {vs : List Nat} : wipeE env (v :: vs) = (wipeE env vs).set v none := rfl
theorem tru_nil : truths [] = some [] := rfl
theorem tru_bl {b : Bool} {ds : List D} : truths (.bl b :: ds) = (match truths ds with
  | some bs => some (b :: bs)
  | none => none) := by
  show (match flatT (.bl b), truths ds with
    | some b, some bs => some (b :: bs)
    | _, _ => none) = _
  cases truths ds <;> rfl
end
end SD
namespace SD
open PySem L2
/-! ### fractions -/
def fr (q : Rat) : D := .tup [.int q.num, .int (q.den : Int)]
def toQ : D → Option Rat
  | .tup [.int n, .int d] => if 0 < d ∧ n.natAbs.gcd d.natAbs = 1 then some (Rat.divInt n d) else none
  | _ => none
theorem toQ_fr (q : Rat) : toQ (fr q) = some q := by
  unfold fr toQ
  have h : (0 : Int) < (q.den : Int) ∧ q.num.natAbs.gcd (q.den : Int).natAbs = 1 := ⟨by exact_mod_cast q.den_pos, q.reduced⟩
  simp only [h, and_self, if_true]
  rw [Rat.num_divInt_den]
theorem fr_inj {a b : Rat} : fr a = fr b ↔ a = b := by
  refine ⟨fun h => ?_, fun h => by rw [h]⟩
  have e := congrArg toQ h
  rw [toQ_fr, toQ_fr] at e
  exact Option.some.inj e
theorem fr_of_toQ {d : D} {q : Rat} (h : toQ d = some q) : d = fr q := by
  unfold toQ at h
  split at h
  · rename_i n d
    split at h
    · rename_i hc
      cases h
      unfold fr
      have e1 : (Rat.divInt n d).num = n := by
        rw [Rat.num_divInt, Int.gcd, Nat.gcd_comm, hc.2]
        have : d.sign = 1 := Int.sign_eq_one_of_pos hc.1
        simp [this]
      have e2 : (Rat.divInt n d).den = d.natAbs := by
        rw [Rat.den_divInt, Int.gcd, Nat.gcd_comm, hc.2]
        have : d ≠ 0 := by omega
        simp [this]
      rw [e1, e2]
      have : ((d.natAbs : Nat) : Int) = d := by omega
      rw [this]
    · cases h
  · cases h
theorem fr_int (n : Int) : D.tup [.int n, .int 1] = fr (n : Rat) := by
  unfold fr
  simp
/-- the size: num and den below 2^k -/
structure B (k : Nat) (q : Rat) : Prop where
  n : q.num.natAbs < 2 ^ k
  d : q.den < 2 ^ k
theorem B.mono {j k : Nat} {q : Rat} (h : B j q) (l : j ≤ k) : B k q := ⟨Nat.lt_of_lt_of_le h.1 (Nat.pow_le_pow_right (by decide) l), Nat.lt_of_lt_of_le h.2 (Nat.pow_le_pow_right (by decide) l)⟩
theorem log2_lt_of {a k : Nat} (h : a < 2 ^ k) (hk : 0 < k) : a.log2 < k := by
  by_cases h0 : a = 0
  · subst h0; simpa using hk
  · exact (Nat.log2_lt h0).mpr h
/-- the fraction of two ints is not greater than these -/
theorem divInt_le {n d : Int} (hd : d ≠ 0) : (Rat.divInt n d).num.natAbs ≤ n.natAbs ∧ (Rat.divInt n d).den ≤ d.natAbs := by
  constructor
  · rw [Rat.num_divInt]
    rw [Int.natAbs_ediv_of_dvd]
    · rw [Int.natAbs_mul]
      have h1 : d.sign.natAbs = 1 := by
        rcases Int.lt_trichotomy d 0 with h | h | h
        · rw [Int.sign_eq_neg_one_of_neg h]; rfl
        · exact absurd h hd
        · rw [Int.sign_eq_one_of_pos h]; rfl
      rw [h1, Nat.one_mul]
      exact Nat.div_le_self _ _
    · exact Int.dvd_mul_of_dvd_right (Int.gcd_dvd_right ..)
  · rw [Rat.den_divInt, if_neg hd]
    exact Nat.div_le_self _ _
end SD

-- SD25
set_option Elab.async false
set_option linter.all false
set_option maxRecDepth 100000
set_option maxHeartbeats 2000000
namespace SD
open PySem L2 PyProof.Rows He
section
variable {p : PD} {P : Program} {w : World} {K : PySem.W.Frag} {mg : Str → Option Value} {base : Heap}
/-- the same of every heap: the law's def -/
theorem okd_top (g : Gd p P w K mg base) {i : Nat} {dd : DefD} (hi : p.defs[i]? = some dd) {x : Str} (hat : dd.at_ = (x, none)) (hdf : dd.dfl = [] ∧ dd.kwd = []) {N ps : List Str} (S : FnScope N ps dd.scope)
    (hb : ∀ (kV doc pm : Value) (an : Option Addr) (cdv ct : Value) (us : List Value), us.length = ps.length → bindArgs (PySem.W.fnOf dd.name dd.qual dd.params dd.body dd.scope .none kV doc pm an cdv ct) ⟨us, []⟩ = pure (ps.zip us))
    {d : FnD} (hn : ps.length = d.n) {k n m : Nat} {l : List (Str × FnD)} (o : ∀ base : Heap, Gd p P w K mg base → Okds p P w K mg base k l) {t : SS} (ht : trBody (tr n) ⟨N, dd.scope, none, true, p.tab l⟩ m dd.body = some t)
    (hsp : ∀ ds S E Q, ds.length = d.n → d.sp ds S E Q → t ⟨fun _ S' => trQ S Q .non S', trQ S Q, fun x _ S' => trE S E x S', fun _ _ => False, fun _ _ => False⟩ (startD N ds) S) :
    ∃ fd : FuncData, mg x = some (.ref (ga K x)) ∧ (∀ (s : Shared) (us : List Value), us.length = ps.length → BindsTo s fd ⟨us, []⟩ (ps.zip us)) ∧ ∀ base : Heap, K.In base → base.Ns mainGlobals mg → FnG P w K mg base (k + 1) (ga K x) fd ps (LSp (gcOf K) d.n d.sp) := by
  obtain ⟨c1, c⟩ := ba g.chk
  obtain ⟨c2, c⟩ := ba c
  obtain ⟨c3, c⟩ := ba c
  obtain ⟨c4, c⟩ := ba c
  obtain ⟨c5, c⟩ := ba c
  obtain ⟨c6, _⟩ := ba c
  have hm : dd ∈ p.defs := List.mem_of_getElem? hi
  have m5 := List.all_eq_true.mp c5 dd hm
  have m6 := List.all_eq_true.mp c6 dd hm
  have ev : p.defs.map (fun d => fnW K d.at_) = p.defs.map DefD.val := congrArg (fun z : AlX => z.2.1) g.says
  have ev1 : fnW K dd.at_ = dd.val := by
    have q : (p.defs.map (fun d => fnW K d.at_))[i]? = (p.defs.map DefD.val)[i]? := by rw [ev]
    rw [List.getElem?_map, List.getElem?_map, hi] at q
    exact Option.some.inj q
  obtain ⟨fd, F⟩ := DefD.funD ev1 m6
  have e1 : dd.dvs K = [] := by unfold DefD.dvs; rw [hdf.1]; rfl
  have e2 : dd.kws K = [] := by unfold DefD.kws; rw [hdf.2]; rfl
  rw [e1, e2] at F
  have ea : fAd K dd.at_ = ga K x := by rw [hat]; rfl
  rw [ea] at F
  refine ⟨fd, glo_ok g.kin g.ns (x := x) ?_, F.bindsA hb, fun base hk hns => ?_⟩
  · rw [hat] at m5
    exact m5
  · have g' : Gd p P w K mg base := ⟨hk, hns, g.says, g.stat, g.file⟩
    exact fnG_def F (gd_says g' (o base g')) S hn ht hsp
end
end SD

-- SL
set_option Elab.async false
set_option linter.all false
set_option maxRecDepth 100000
namespace SL
open PySem SD
def N__law_draws : List Str := ["script", "draws", "cell", "rest", "k", "mixed"]
def t__law_draws (T : Tab) : SS := sSeq [sAsg (eLst []) (gVar 1), sFor (iE (eSlice (eVar 0) none (some (eC (.int 63))))) (gVar 2) (sSeq [sAsg (eB1 absD (eVar 2)) (gVar 3), sIf (tE (eCmp .ge (eVar 3) (eBin powD (eC (.int 10)) (eC (.int 18))))) (sSeq [sFor (iRange1 (eC (.int 60))) (gVar 4) (sSeq [sIf (tE (eCmp .gt (eVar 3) (eC (.int 0)))) (sSeq [sExpr (eApp (eVar 1) (eBin modD (eB1 intD (eVar 3)) (eC (.int 1009)))), sAsg (eBin fdivD (eVar 3) (eC (.int 1009))) (gVar 3)]) (sSeq [])])]) (sSeq [sAsg (eBin modD (eB1 intD (eBin addD (eBin mulD (eVar 3) (eC (.int 48271))) (eC (.int 11)))) (eC (.int 2147483647))) (gVar 5), sFor (iRange1 (eC (.int 12))) (gVar 4) (sSeq [sAsg (eBin modD (eB1 intD (eBin addD (eBin addD (eBin mulD (eVar 5) (eC (.int 16807))) (eBin mulD (eC (.int 69621)) (eVar 4))) (eC (.int 5)))) (eC (.int 2147483629))) (gVar 5), sExpr (eApp (eVar 1) (eBin fdivD (eVar 5) (eC (.int 1009))))])])]), sRet (eVar 1)]
def N__law_more : List Str := ["draws", "place", "mixed", "k"]
def t__law_more (T : Tab) : SS := sSeq [sAsg (eBin modD (eB1 intD (eBin addD (eBin addD (eBin mulD (eVar 1) (eC (.int 48271))) (eB1 lenD (eVar 0))) (eC (.int 11)))) (eC (.int 2147483629))) (gVar 2), sFor (iRange1 (eC (.int 3))) (gVar 3) (sSeq [sIf (tE (eVar 0)) (sSeq [sAsg (eBin addD (eVar 2) (eIx (eVar 0) (eBin modD (eB1 intD (eBin addD (eBin mulD (eVar 1) (eBin addD (eVar 3) (eC (.int 5)))) (eVar 3))) (eB1 lenD (eVar 0))))) (gVar 2)]) (sSeq []), sAsg (eBin modD (eB1 intD (eBin addD (eBin addD (eBin mulD (eVar 2) (eC (.int 16807))) (eBin mulD (eC (.int 69621)) (eVar 3))) (eC (.int 5)))) (eC (.int 2147483629))) (gVar 2)]), sRet (eBin fdivD (eVar 2) (eC (.int 1009)))]
def N__law_take : List Str := ["draws", "at", "many", "place"]
def t__law_take (T : Tab) : SS := sSeq [sAsg (eIx (eVar 1) (eC (.int 0))) (gVar 3), sAsg (eBin addD (eVar 3) (eC (.int 1))) (gIx (eVar 1) (eC (.int 0))), sRet (eBin modD (eB1 intD (eIf (tE (eCmp .lt (eVar 3) (eB1 lenD (eVar 0)))) (eIx (eVar 0) (eVar 3)) (eCall T "_law_more" [eVar 0, eVar 3]))) (eVar 2))]
def N__law_one : List Str := ["rows", "draws", "at"]
def t__law_one (T : Tab) : SS := sSeq [sRet (eIx (eVar 0) (eCall T "_law_take" [eVar 1, eVar 2, eB1 lenD (eVar 0)]))]
def N_is_integer : List Str := ["value"]
def t_is_integer (T : Tab) : SS := sSeq [sRet (eAnd (eB1 (isaD ["int"]) (eVar 0)) (eNot (eB1 (isaD ["bool"]) (eVar 0))))]
def N_in_range : List Str := ["value", "least", "most"]
def t_in_range (T : Tab) : SS := sSeq [sRet (eAnd (eCall T "is_integer" [eVar 0]) (eChain .le .le (eVar 1) (eVar 0) (eVar 2)))]
def N_common : List Str := ["number", "other"]
def t_common (T : Tab) : SS := sSeq [sAsg (eTup [eB1 absD (eVar 0), eB1 absD (eVar 1)]) (gTup [gVar 0, gVar 1]), sWhile (tE (eVar 1)) (sSeq [sAsg (eTup [eVar 1, eBin modD (eVar 0) (eVar 1)]) (gTup [gVar 0, gVar 1])]), sRet (eVar 0)]
def N_is_fraction : List Str := ["value", "part"]
def t_is_fraction (T : Tab) : SS := sSeq [sIf (tOr (tNot (tE (eB1 (isaD ["tuple"]) (eVar 0)))) (tOr (tE (eCmp .ne (eB1 lenD (eVar 0)) (eC (.int 2)))) (tNot (tE (eAllC (iE (eVar 0)) [1] (gVar 1) tYes (eCall T "is_integer" [eVar 1])))))) (sSeq [sRet (eC (.bl false))]) (sSeq []), sRet (eAnd (eCmp .gt (eIx (eVar 0) (eC (.int 1))) (eC (.int 0))) (eCmp .eq (eCall T "common" [eIx (eVar 0) (eC (.int 0)), eIx (eVar 0) (eC (.int 1))]) (eC (.int 1))))]
def N_is_small : List Str := ["value"]
def t_is_small (T : Tab) : SS := sSeq [sIf (tOr (tNot (tE (eB1 (isaD ["tuple"]) (eVar 0)))) (tE (eCmp .ne (eB1 lenD (eVar 0)) (eC (.int 2))))) (sSeq [sRet (eC (.bl false))]) (sSeq []), sIf (tOr (tNot (tE (eCall T "in_range" [eIx (eVar 0) (eC (.int 0)), eBin subD (eC (.int 0)) (eGlob T "MAX_NUMBER"), eGlob T "MAX_NUMBER"]))) (tNot (tE (eCall T "in_range" [eIx (eVar 0) (eC (.int 1)), eC (.int 1), eGlob T "MAX_NUMBER"])))) (sSeq [sRet (eC (.bl false))]) (sSeq []), sRet (eCall T "is_fraction" [eVar 0])]
def N_demand_fraction : List Str := ["value", "reason"]
def t_demand_fraction (T : Tab) : SS := sSeq [sIf (tNot (tE (eCall T "is_small" [eVar 0]))) (sSeq [sRaise T "ArgumentError" [eVar 1]]) (sSeq [])]
def N_made : List Str := ["number", "other", "part"]
def t_made (T : Tab) : SS := sSeq [sIf (tE (eCmp .lt (eVar 1) (eC (.int 0)))) (sSeq [sAsg (eTup [eBin subD (eC (.int 0)) (eVar 0), eBin subD (eC (.int 0)) (eVar 1)]) (gTup [gVar 0, gVar 1])]) (sSeq []), sAsg (eCall T "common" [eVar 0, eVar 1]) (gVar 2), sRet (eTup [eBin fdivD (eVar 0) (eVar 2), eBin fdivD (eVar 1) (eVar 2)])]
def N_added : List Str := ["one", "other"]
def t_added (T : Tab) : SS := sSeq [sRet (eCall T "made" [eBin addD (eBin mulD (eIx (eVar 0) (eC (.int 0))) (eIx (eVar 1) (eC (.int 1)))) (eBin mulD (eIx (eVar 1) (eC (.int 0))) (eIx (eVar 0) (eC (.int 1)))), eBin mulD (eIx (eVar 0) (eC (.int 1))) (eIx (eVar 1) (eC (.int 1)))])]
def N_negated : List Str := ["one"]
def t_negated (T : Tab) : SS := sSeq [sRet (eTup [eBin subD (eC (.int 0)) (eIx (eVar 0) (eC (.int 0))), eIx (eVar 0) (eC (.int 1))])]
def N_multiplied : List Str := ["one", "other"]
def t_multiplied (T : Tab) : SS := sSeq [sRet (eCall T "made" [eBin mulD (eIx (eVar 0) (eC (.int 0))) (eIx (eVar 1) (eC (.int 0))), eBin mulD (eIx (eVar 0) (eC (.int 1))) (eIx (eVar 1) (eC (.int 1)))])]
def N_turned : List Str := ["one"]
def t_turned (T : Tab) : SS := sSeq [sRet (eCall T "made" [eIx (eVar 0) (eC (.int 1)), eIx (eVar 0) (eC (.int 0))])]
def N_order_of : List Str := ["one", "other", "rest"]
def t_order_of (T : Tab) : SS := sSeq [sAsg (eBin subD (eBin mulD (eIx (eVar 0) (eC (.int 0))) (eIx (eVar 1) (eC (.int 1)))) (eBin mulD (eIx (eVar 1) (eC (.int 0))) (eIx (eVar 0) (eC (.int 1))))) (gVar 2), sRet (eBin subD (eCmp .gt (eVar 2) (eC (.int 0))) (eCmp .lt (eVar 2) (eC (.int 0))))]
def N_is_way : List Str := ["value", "part"]
def t_is_way (T : Tab) : SS := sSeq [sRet (eAnd (eB1 (isaD ["tuple"]) (eVar 0)) (eAnd (eCmp .eq (eB1 lenD (eVar 0)) (eC (.int 3))) (eAllC (iE (eVar 0)) [1] (gVar 1) tYes (eCall T "is_small" [eVar 1]))))]
def N_demand_way : List Str := ["value", "reason"]
def t_demand_way (T : Tab) : SS := sSeq [sIf (tNot (tE (eCall T "is_way" [eVar 0]))) (sSeq [sRaise T "ArgumentError" [eVar 1]]) (sSeq [])]
def N_demand_some : List Str := ["value", "reason"]
def t_demand_some (T : Tab) : SS := sSeq [sExpr (eCall T "demand_way" [eVar 0, eVar 1]), sIf (tE (eCmp .eq (eVar 0) (eGlob T "NONE"))) (sSeq [sRaise T "ArgumentError" [eVar 1]]) (sSeq [])]
def N_demand_rows : List Str := ["rows", "least", "most", "reason", "one"]
def t_demand_rows (T : Tab) : SS := sSeq [sIf (tOr (tNot (tE (eB1 (isaD ["tuple"]) (eVar 0)))) (tOr (tNot (tE (eChain .le .le (eVar 1) (eB1 lenD (eVar 0)) (eVar 2)))) (tNot (tE (eAllC (iE (eVar 0)) [4] (gVar 4) tYes (eCall T "is_way" [eVar 4])))))) (sSeq [sRaise T "ArgumentError" [eVar 3]]) (sSeq [])]
def N_sum_of : List Str := ["one", "other", "part", "own"]
def t_sum_of (T : Tab) : SS := sSeq [sRet (eTupC (iZip (eVar 0) (eVar 1)) [2, 3] (gTup [gVar 2, gVar 3]) tYes (eCall T "added" [eVar 2, eVar 3]))]
def N_less : List Str := ["one", "other", "part", "own"]
def t_less (T : Tab) : SS := sSeq [sRet (eTupC (iZip (eVar 0) (eVar 1)) [2, 3] (gTup [gVar 2, gVar 3]) tYes (eCall T "added" [eVar 2, eCall T "negated" [eVar 3]]))]
def N_scaled : List Str := ["way", "share", "part"]
def t_scaled (T : Tab) : SS := sSeq [sRet (eTupC (iE (eVar 0)) [2] (gVar 2) tYes (eCall T "multiplied" [eVar 2, eVar 1]))]
def N_dot : List Str := ["one", "other", "total", "part", "own"]
def t_dot (T : Tab) : SS := sSeq [sAsg (eGlob T "ZERO") (gVar 2), sFor (iZip (eVar 0) (eVar 1)) (gTup [gVar 3, gVar 4]) (sSeq [sAsg (eCall T "added" [eVar 2, eCall T "multiplied" [eVar 3, eVar 4]]) (gVar 2)]), sRet (eVar 2)]
def N_cross : List Str := ["one", "other", "found", "place", "first", "second", "left", "right"]
def t_cross (T : Tab) : SS := sSeq [sAsg (eLst []) (gVar 2), sFor (iRange1 (eC (.int 3))) (gVar 3) (sSeq [sAsg (eTup [eBin modD (eBin addD (eVar 3) (eC (.int 1))) (eC (.int 3)), eBin modD (eBin addD (eVar 3) (eC (.int 2))) (eC (.int 3))]) (gTup [gVar 4, gVar 5]), sAsg (eTup [eCall T "multiplied" [eIx (eVar 0) (eVar 4), eIx (eVar 1) (eVar 5)], eCall T "multiplied" [eIx (eVar 0) (eVar 5), eIx (eVar 1) (eVar 4)]]) (gTup [gVar 6, gVar 7]), sExpr (eApp (eVar 2) (eCall T "added" [eVar 6, eCall T "negated" [eVar 7]]))]), sRet (eB1 tupleD (eVar 2))]
def N_box : List Str := ["one", "other", "third"]
def t_box (T : Tab) : SS := sSeq [sRet (eCall T "dot" [eCall T "cross" [eVar 0, eVar 1], eVar 2])]
def N_square : List Str := ["way"]
def t_square (T : Tab) : SS := sSeq [sRet (eCall T "dot" [eVar 0, eVar 0])]
def N_lean : List Str := ["way", "lead", "part"]
def t_lean (T : Tab) : SS := sSeq [sAsg (eIx (eComp (iE (eVar 0)) [2] (gVar 2) (tE (eIx (eVar 2) (eC (.int 0)))) (eVar 2)) (eC (.int 0))) (gVar 1), sRet (eCall T "scaled" [eVar 0, eCall T "turned" [eVar 1]])]
def N_sign_of : List Str := ["share"]
def t_sign_of (T : Tab) : SS := sSeq [sRet (eBin subD (eCmp .gt (eIx (eVar 0) (eC (.int 0))) (eC (.int 0))) (eCmp .lt (eIx (eVar 0) (eC (.int 0))) (eC (.int 0))))]
def N_cosine : List Str := ["one", "other", "top", "under"]
def t_cosine (T : Tab) : SS := sSeq [sAsg (eTup [eCall T "dot" [eVar 0, eVar 1], eCall T "multiplied" [eCall T "square" [eVar 0], eCall T "square" [eVar 1]]]) (gTup [gVar 2, gVar 3]), sRet (eTup [eCall T "sign_of" [eVar 2], eCall T "multiplied" [eCall T "multiplied" [eVar 2, eVar 2], eCall T "turned" [eVar 3]]])]
def N_volume : List Str := ["points"]
def t_volume (T : Tab) : SS := sSeq [sExpr (eCall T "demand_points" [eVar 0]), sRet (eCall T "volume_of" [eVar 0])]
def N_are_along : List Str := ["one", "other"]
def t_are_along (T : Tab) : SS := sSeq [sRet (eCmp .eq (eCall T "cross" [eVar 0, eVar 1]) (eGlob T "NONE"))]
def N_rank_of : List Str := ["rows", "some", "aside", "up", "way"]
def t_rank_of (T : Tab) : SS := sSeq [sAsg (eComp (iE (eVar 0)) [4] (gVar 4) (tE (eCmp .ne (eVar 4) (eGlob T "NONE"))) (eVar 4)) (gVar 1), sIf (tNot (tE (eVar 1))) (sSeq [sRet (eC (.int 0))]) (sSeq []), sAsg (eComp (iE (eVar 1)) [4] (gVar 4) (tNot (tE (eCall T "are_along" [eIx (eVar 1) (eC (.int 0)), eVar 4]))) (eVar 4)) (gVar 2), sIf (tNot (tE (eVar 2))) (sSeq [sRet (eC (.int 1))]) (sSeq []), sAsg (eCall T "cross" [eIx (eVar 1) (eC (.int 0)), eIx (eVar 2) (eC (.int 0))]) (gVar 3), sRet (eIf (tE (eAnyC (iE (eVar 1)) [4] (gVar 4) tYes (eIx (eCall T "dot" [eVar 3, eVar 4]) (eC (.int 0))))) (eC (.int 3)) (eC (.int 2)))]
def N_parts_of : List Str := ["way", "one", "other", "third", "whole", "under", "rows", "part"]
def t_parts_of (T : Tab) : SS := sSeq [sAsg (eCall T "box" [eVar 1, eVar 2, eVar 3]) (gVar 4), sIf (tNot (tE (eIx (eVar 4) (eC (.int 0))))) (sSeq [sRet (eC .non)]) (sSeq []), sAsg (eCall T "turned" [eVar 4]) (gVar 5), sAsg (eTup [eCall T "box" [eVar 0, eVar 2, eVar 3], eCall T "box" [eVar 1, eVar 0, eVar 3], eCall T "box" [eVar 1, eVar 2, eVar 0]]) (gVar 6), sRet (eTupC (iE (eVar 6)) [7] (gVar 7) tYes (eCall T "multiplied" [eVar 7, eVar 5]))]
def N_middle_of : List Str := ["points", "total", "point"]
def t_middle_of (T : Tab) : SS := sSeq [sAsg (eGlob T "NONE") (gVar 1), sFor (iE (eVar 0)) (gVar 2) (sSeq [sAsg (eCall T "sum_of" [eVar 1, eVar 2]) (gVar 1)]), sRet (eCall T "scaled" [eVar 1, eCall T "made" [eC (.int 1), eB1 lenD (eVar 0)]])]
def N__law_same_as : List Str := ["actual", "due"]
def t__law_same_as (T : Tab) : SS := sSeq [sRet (eAnd (eCmp .eq (eVar 0) (eVar 1)) (eCmp .eq (eB1 reprD (eVar 0)) (eB1 reprD (eVar 1))))]
def N__law_made : List Str := ["number", "other", "one", "two"]
def t__law_made (T : Tab) : SS := sSeq [sAsg (eTup [eB1 absD (eVar 0), eB1 absD (eVar 1)]) (gTup [gVar 2, gVar 3]), sWhile (tE (eCmp .gt (eVar 3) (eC (.int 0)))) (sSeq [sAsg (eTup [eVar 3, eBin modD (eB1 intD (eVar 2)) (eVar 3)]) (gTup [gVar 2, gVar 3])]), sIf (tE (eCmp .lt (eVar 1) (eC (.int 0)))) (sSeq [sAsg (eTup [eBin subD (eC (.int 0)) (eVar 0), eBin subD (eC (.int 0)) (eVar 1)]) (gTup [gVar 0, gVar 1])]) (sSeq []), sRet (eTup [eBin fdivD (eVar 0) (eVar 2), eBin fdivD (eVar 1) (eVar 2)])]
def N__law_add : List Str := ["one", "other"]
def t__law_add (T : Tab) : SS := sSeq [sRet (eCall T "_law_made" [eBin addD (eBin mulD (eIx (eVar 0) (eC (.int 0))) (eIx (eVar 1) (eC (.int 1)))) (eBin mulD (eIx (eVar 1) (eC (.int 0))) (eIx (eVar 0) (eC (.int 1)))), eBin mulD (eIx (eVar 0) (eC (.int 1))) (eIx (eVar 1) (eC (.int 1)))])]
def N__law_mul : List Str := ["one", "other"]
def t__law_mul (T : Tab) : SS := sSeq [sRet (eCall T "_law_made" [eBin mulD (eIx (eVar 0) (eC (.int 0))) (eIx (eVar 1) (eC (.int 0))), eBin mulD (eIx (eVar 0) (eC (.int 1))) (eIx (eVar 1) (eC (.int 1)))])]
def N__law_neg : List Str := ["one"]
def t__law_neg (T : Tab) : SS := sSeq [sRet (eTup [eBin subD (eC (.int 0)) (eIx (eVar 0) (eC (.int 0))), eIx (eVar 0) (eC (.int 1))])]
def N__law_less : List Str := ["one", "other"]
def t__law_less (T : Tab) : SS := sSeq [sRet (eCmp .lt (eBin mulD (eIx (eVar 0) (eC (.int 0))) (eIx (eVar 1) (eC (.int 1)))) (eBin mulD (eIx (eVar 1) (eC (.int 0))) (eIx (eVar 0) (eC (.int 1)))))]
def N__law_fraction : List Str := ["draws", "at", "wide"]
def t__law_fraction (T : Tab) : SS := sSeq [sRet (eCall T "_law_made" [eBin subD (eCall T "_law_take" [eVar 0, eVar 1, eBin addD (eBin mulD (eC (.int 2)) (eVar 2)) (eC (.int 1))]) (eVar 2), eBin addD (eC (.int 1)) (eCall T "_law_take" [eVar 0, eVar 1, eCall T "_law_one" [eLst [eC (.int 1), eC (.int 1), eC (.int 4)], eVar 0, eVar 1]])])]
def N__law_way : List Str := ["wide", "draws", "at", "k"]
def t__law_way (T : Tab) : SS := sSeq [sRet (eTupC (iRange1 (eC (.int 3))) [3] (gVar 3) tYes (eIf (tE (eCmp .eq (eCall T "_law_take" [eVar 1, eVar 2, eC (.int 4)]) (eC (.int 0)))) (eTup [eC (.int 0), eC (.int 1)]) (eCall T "_law_fraction" [eVar 1, eVar 2, eVar 0])))]
def N__law_sum : List Str := ["one", "other", "k"]
def t__law_sum (T : Tab) : SS := sSeq [sRet (eTupC (iRange1 (eC (.int 3))) [2] (gVar 2) tYes (eCall T "_law_add" [eIx (eVar 0) (eVar 2), eIx (eVar 1) (eVar 2)]))]
def N__law_gap : List Str := ["one", "other", "k"]
def t__law_gap (T : Tab) : SS := sSeq [sRet (eTupC (iRange1 (eC (.int 3))) [2] (gVar 2) tYes (eCall T "_law_add" [eIx (eVar 0) (eVar 2), eCall T "_law_neg" [eIx (eVar 1) (eVar 2)]]))]
def N__law_times : List Str := ["way", "share", "part"]
def t__law_times (T : Tab) : SS := sSeq [sRet (eTupC (iE (eVar 0)) [2] (gVar 2) tYes (eCall T "_law_mul" [eVar 2, eVar 1]))]
def N__law_dot : List Str := ["one", "other"]
def t__law_dot (T : Tab) : SS := sSeq [sRet (eCall T "_law_add" [eCall T "_law_add" [eCall T "_law_mul" [eIx (eVar 0) (eC (.int 0)), eIx (eVar 1) (eC (.int 0))], eCall T "_law_mul" [eIx (eVar 0) (eC (.int 1)), eIx (eVar 1) (eC (.int 1))]], eCall T "_law_mul" [eIx (eVar 0) (eC (.int 2)), eIx (eVar 1) (eC (.int 2))]])]
def N__law_cross : List Str := ["one", "other", "rows", "a", "b"]
def t__law_cross (T : Tab) : SS := sSeq [sAsg (eTup [eTup [eC (.int 1), eC (.int 2)], eTup [eC (.int 2), eC (.int 0)], eTup [eC (.int 0), eC (.int 1)]]) (gVar 2), sRet (eTupC (iE (eVar 2)) [3, 4] (gTup [gVar 3, gVar 4]) tYes (eCall T "_law_add" [eCall T "_law_mul" [eIx (eVar 0) (eVar 3), eIx (eVar 1) (eVar 4)], eCall T "_law_neg" [eCall T "_law_mul" [eIx (eVar 0) (eVar 4), eIx (eVar 1) (eVar 3)]]]))]
def N__law_box : List Str := ["one", "other", "third"]
def t__law_box (T : Tab) : SS := sSeq [sRet (eCall T "_law_dot" [eCall T "_law_cross" [eVar 0, eVar 1], eVar 2])]
def N__law_turned : List Str := ["share"]
def t__law_turned (T : Tab) : SS := sSeq [sRet (eCall T "_law_made" [eIx (eVar 0) (eC (.int 1)), eIx (eVar 0) (eC (.int 0))])]
def N__law_lean : List Str := ["way", "lead", "part"]
def t__law_lean (T : Tab) : SS := sSeq [sAsg (eIx (eComp (iE (eVar 0)) [2] (gVar 2) (tE (eCmp .ne (eIx (eVar 2) (eC (.int 0))) (eC (.int 0)))) (eVar 2)) (eC (.int 0))) (gVar 1), sRet (eCall T "_law_times" [eVar 0, eCall T "_law_turned" [eVar 1]])]
def N__law_is_none : List Str := ["way"]
def t__law_is_none (T : Tab) : SS := sSeq [sRet (eCmp .eq (eVar 0) (eTup [eTup [eC (.int 0), eC (.int 1)], eTup [eC (.int 0), eC (.int 1)], eTup [eC (.int 0), eC (.int 1)]]))]
def N__law_rank : List Str := ["ways", "some", "ups", "way", "part", "up"]
def t__law_rank (T : Tab) : SS := sSeq [sAsg (eComp (iE (eVar 0)) [3] (gVar 3) (tE (eCmp .ne (eComp (iE (eVar 3)) [4] (gVar 4) (tE (eCmp .ne (eIx (eVar 4) (eC (.int 0))) (eC (.int 0)))) (eVar 4)) (eLst []))) (eVar 3)) (gVar 1), sIf (tE (eCmp .eq (eVar 1) (eLst []))) (sSeq [sRet (eC (.int 0))]) (sSeq []), sAsg (eComp (iE (eVar 1)) [3] (gVar 3) tYes (eCall T "_law_cross" [eIx (eVar 1) (eC (.int 0)), eVar 3])) (gVar 2), sAsg (eComp (iE (eVar 2)) [5] (gVar 5) (tE (eCmp .ne (eComp (iE (eVar 5)) [4] (gVar 4) (tE (eCmp .ne (eIx (eVar 4) (eC (.int 0))) (eC (.int 0)))) (eVar 4)) (eLst []))) (eVar 5)) (gVar 2), sIf (tE (eCmp .eq (eVar 2) (eLst []))) (sSeq [sRet (eC (.int 1))]) (sSeq []), sRet (eIf (tE (eCmp .ne (eComp (iE (eVar 1)) [3] (gVar 3) (tE (eCmp .ne (eIx (eCall T "_law_dot" [eIx (eVar 2) (eC (.int 0)), eVar 3]) (eC (.int 0))) (eC (.int 0)))) (eVar 3)) (eLst []))) (eC (.int 3)) (eC (.int 2)))]
def N_check_plane : List Str := ["plane", "part"]
def t_check_plane (T : Tab) : SS := sSeq [sIf (tOr (tNot (tE (eB1 (isaD ["tuple"]) (eVar 0)))) (tE (eCmp .ne (eB1 lenD (eVar 0)) (eC (.int 4))))) (sSeq [sRaise T "CheckError" [eC (.str "form")]]) (sSeq []), sIf (tNot (tE (eAllC (iE (eVar 0)) [1] (gVar 1) tYes (eCall T "is_small" [eVar 1])))) (sSeq [sRaise T "CheckError" [eC (.str "part")]]) (sSeq []), sIf (tE (eCmp .eq (eSlice (eVar 0) none (some (eC (.int 3)))) (eGlob T "NONE"))) (sSeq [sRaise T "CheckError" [eC (.str "noughts")]]) (sSeq []), sIf (tE (eCmp .ne (eCall T "lean" [eSlice (eVar 0) none (some (eC (.int 3)))]) (eSlice (eVar 0) none (some (eC (.int 3)))))) (sSeq [sRaise T "CheckError" [eC (.str "lean")]]) (sSeq [])]
def N_check_line : List Str := ["line", "one"]
def t_check_line (T : Tab) : SS := sSeq [sIf (tOr (tNot (tE (eB1 (isaD ["tuple"]) (eVar 0)))) (tOr (tE (eCmp .ne (eB1 lenD (eVar 0)) (eC (.int 2)))) (tNot (tE (eAllC (iE (eVar 0)) [1] (gVar 1) tYes (eB1 (isaD ["tuple"]) (eVar 1))))))) (sSeq [sRaise T "CheckError" [eC (.str "form")]]) (sSeq []), sIf (tNot (tE (eAllC (iE (eVar 0)) [1] (gVar 1) tYes (eCall T "is_way" [eVar 1])))) (sSeq [sRaise T "CheckError" [eC (.str "part")]]) (sSeq []), sIf (tE (eCmp .eq (eIx (eVar 0) (eC (.int 1))) (eGlob T "NONE"))) (sSeq [sRaise T "CheckError" [eC (.str "noughts")]]) (sSeq []), sIf (tE (eCmp .ne (eCall T "line_of" [eIx (eVar 0) (eC (.int 0)), eIx (eVar 0) (eC (.int 1))]) (eVar 0))) (sSeq [sRaise T "CheckError" [eC (.str "lean")]]) (sSeq [])]
def N_plane_of : List Str := ["up", "point", "way"]
def t_plane_of (T : Tab) : SS := sSeq [sAsg (eCall T "lean" [eVar 0]) (gVar 2), sRet (eBin addD (eVar 2) (eTup [eCall T "dot" [eVar 2, eVar 1]]))]
def N_line_of : List Str := ["point", "way", "own", "place", "number"]
def t_line_of (T : Tab) : SS := sSeq [sAsg (eCall T "lean" [eVar 1]) (gVar 2), sAsg (eIx (eComp (iRange1 (eC (.int 3))) [4] (gVar 4) (tE (eIx (eIx (eVar 2) (eVar 4)) (eC (.int 0)))) (eVar 4)) (eC (.int 0))) (gVar 3), sRet (eTup [eCall T "less" [eVar 0, eCall T "scaled" [eVar 2, eIx (eVar 0) (eVar 3)]], eVar 2])]
def N_height : List Str := ["plane", "point"]
def t_height (T : Tab) : SS := sSeq [sRet (eCall T "added" [eCall T "dot" [eSlice (eVar 0) none (some (eC (.int 3))), eVar 1], eCall T "negated" [eIx (eVar 0) (eC (.int 3))]])]
def N_is_in_line : List Str := ["line", "point"]
def t_is_in_line (T : Tab) : SS := sSeq [sRet (eCall T "are_along" [eIx (eVar 0) (eC (.int 1)), eCall T "less" [eVar 1, eIx (eVar 0) (eC (.int 0))]])]
def N_plane_through : List Str := ["one", "other", "third", "point", "reason", "up"]
def t_plane_through (T : Tab) : SS := sSeq [sFor (iE (eTup [eTup [eVar 0, eC (.str "one")], eTup [eVar 1, eC (.str "other")], eTup [eVar 2, eC (.str "third")]])) (gTup [gVar 3, gVar 4]) (sSeq [sExpr (eCall T "demand_way" [eVar 3, eVar 4])]), sAsg (eCall T "cross" [eCall T "less" [eVar 1, eVar 0], eCall T "less" [eVar 2, eVar 0]]) (gVar 5), sRet (eIf (tE (eCmp .eq (eVar 5) (eGlob T "NONE"))) (eC .non) (eCall T "plane_of" [eVar 5, eVar 0]))]
def N_line_through : List Str := ["one", "other"]
def t_line_through (T : Tab) : SS := sSeq [sExpr (eCall T "demand_way" [eVar 0, eC (.str "one")]), sExpr (eCall T "demand_way" [eVar 1, eC (.str "other")]), sRet (eIf (tE (eCmp .eq (eVar 0) (eVar 1))) (eC .non) (eCall T "line_of" [eVar 0, eCall T "less" [eVar 1, eVar 0]]))]
def N_plane_upright : List Str := ["point", "way"]
def t_plane_upright (T : Tab) : SS := sSeq [sExpr (eCall T "demand_way" [eVar 0, eC (.str "point")]), sExpr (eCall T "demand_way" [eVar 1, eC (.str "way")]), sIf (tE (eCmp .eq (eVar 1) (eGlob T "NONE"))) (sSeq [sRaise T "ArgumentError" [eC (.str "way")]]) (sSeq []), sRet (eCall T "plane_of" [eVar 1, eVar 0])]
def N_line_along : List Str := ["point", "way"]
def t_line_along (T : Tab) : SS := sSeq [sExpr (eCall T "demand_way" [eVar 0, eC (.str "point")]), sExpr (eCall T "demand_way" [eVar 1, eC (.str "way")]), sIf (tE (eCmp .eq (eVar 1) (eGlob T "NONE"))) (sSeq [sRaise T "ArgumentError" [eC (.str "way")]]) (sSeq []), sRet (eCall T "line_of" [eVar 0, eVar 1])]
def N_side : List Str := ["plane", "point"]
def t_side (T : Tab) : SS := sSeq [sExpr (eCall T "check_plane" [eVar 0]), sExpr (eCall T "demand_way" [eVar 1, eC (.str "point")]), sRet (eCall T "order_of" [eCall T "height" [eVar 0, eVar 1], eGlob T "ZERO"])]
def N_is_on : List Str := ["line", "point"]
def t_is_on (T : Tab) : SS := sSeq [sExpr (eCall T "check_line" [eVar 0]), sExpr (eCall T "demand_way" [eVar 1, eC (.str "point")]), sRet (eCall T "is_in_line" [eVar 0, eVar 1])]
def N_meet_planes : List Str := ["one", "other"]
def t_meet_planes (T : Tab) : SS := sSeq [sExpr (eCall T "check_plane" [eVar 0]), sExpr (eCall T "check_plane" [eVar 1]), sIf (tE (eCmp .eq (eSlice (eVar 0) none (some (eC (.int 3)))) (eSlice (eVar 1) none (some (eC (.int 3)))))) (sSeq [sRet (eIf (tE (eCmp .eq (eIx (eVar 0) (eC (.int 3))) (eIx (eVar 1) (eC (.int 3))))) (eTup [eC (.str "same")]) (eTup [eC (.str "apart")]))]) (sSeq []), sRet (eTup [eC (.str "line"), eCall T "common_line" [eVar 0, eVar 1]])]
def N_common_line : List Str := ["one", "other", "way", "point"]
def t_common_line (T : Tab) : SS := sSeq [sAsg (eCall T "cross" [eSlice (eVar 0) none (some (eC (.int 3))), eSlice (eVar 1) none (some (eC (.int 3)))]) (gVar 2), sAsg (eCall T "solve" [eVar 0, eVar 1, eBin addD (eVar 2) (eTup [eGlob T "ZERO"])]) (gVar 3), sRet (eCall T "line_of" [eVar 3, eVar 2])]
def N_solve : List Str := ["one", "other", "third", "rows", "columns", "place", "row"]
def t_solve (T : Tab) : SS := sSeq [sAsg (eTup [eVar 0, eVar 1, eVar 2]) (gVar 3), sAsg (eComp (iRange1 (eC (.int 3))) [5] (gVar 5) tYes (eTupC (iE (eVar 3)) [6] (gVar 6) tYes (eIx (eVar 6) (eVar 5)))) (gVar 4), sRet (eCall T "parts_of" [eTupC (iE (eVar 3)) [6] (gVar 6) tYes (eIx (eVar 6) (eC (.int 3))), eIx (eVar 4) (eC (.int 0)), eIx (eVar 4) (eC (.int 1)), eIx (eVar 4) (eC (.int 2))])]
def N_meet_plane : List Str := ["line", "plane", "slope", "gap"]
def t_meet_plane (T : Tab) : SS := sSeq [sExpr (eCall T "check_line" [eVar 0]), sExpr (eCall T "check_plane" [eVar 1]), sAsg (eTup [eCall T "dot" [eSlice (eVar 1) none (some (eC (.int 3))), eIx (eVar 0) (eC (.int 1))], eCall T "height" [eVar 1, eIx (eVar 0) (eC (.int 0))]]) (gTup [gVar 2, gVar 3]), sIf (tNot (tE (eIx (eVar 2) (eC (.int 0))))) (sSeq [sRet (eIf (tNot (tE (eIx (eVar 3) (eC (.int 0))))) (eTup [eC (.str "within")]) (eTup [eC (.str "apart")]))]) (sSeq []), sRet (eTup [eC (.str "point"), eCall T "less" [eIx (eVar 0) (eC (.int 0)), eCall T "scaled" [eIx (eVar 0) (eC (.int 1)), eCall T "multiplied" [eVar 3, eCall T "turned" [eVar 2]]]]])]
def N_lines_lie : List Str := ["one", "other", "gap"]
def t_lines_lie (T : Tab) : SS := sSeq [sExpr (eCall T "check_line" [eVar 0]), sExpr (eCall T "check_line" [eVar 1]), sIf (tE (eCmp .eq (eIx (eVar 0) (eC (.int 1))) (eIx (eVar 1) (eC (.int 1))))) (sSeq [sRet (eIf (tE (eCmp .eq (eIx (eVar 0) (eC (.int 0))) (eIx (eVar 1) (eC (.int 0))))) (eTup [eC (.str "same")]) (eTup [eC (.str "along")]))]) (sSeq []), sAsg (eCall T "less" [eIx (eVar 1) (eC (.int 0)), eIx (eVar 0) (eC (.int 0))]) (gVar 2), sIf (tE (eIx (eCall T "box" [eVar 2, eIx (eVar 0) (eC (.int 1)), eIx (eVar 1) (eC (.int 1))]) (eC (.int 0)))) (sSeq [sRet (eTup [eC (.str "skew")])]) (sSeq []), sRet (eTup [eC (.str "meet"), eIx (eCall T "nearest_pair" [eVar 0, eVar 1]) (eC (.int 0))])]
def N_nearest_pair : List Str := ["one", "other", "up", "shares"]
def t_nearest_pair (T : Tab) : SS := sSeq [sAsg (eCall T "cross" [eIx (eVar 0) (eC (.int 1)), eIx (eVar 1) (eC (.int 1))]) (gVar 2), sAsg (eCall T "parts_of" [eCall T "less" [eIx (eVar 1) (eC (.int 0)), eIx (eVar 0) (eC (.int 0))], eIx (eVar 0) (eC (.int 1)), eIx (eVar 1) (eC (.int 1)), eVar 2]) (gVar 3), sRet (eTup [eCall T "sum_of" [eIx (eVar 0) (eC (.int 0)), eCall T "scaled" [eIx (eVar 0) (eC (.int 1)), eIx (eVar 3) (eC (.int 0))]], eCall T "less" [eIx (eVar 1) (eC (.int 0)), eCall T "scaled" [eIx (eVar 1) (eC (.int 1)), eIx (eVar 3) (eC (.int 1))]]])]
def N_foot_of : List Str := ["line", "point", "share"]
def t_foot_of (T : Tab) : SS := sSeq [sAsg (eCall T "multiplied" [eCall T "dot" [eCall T "less" [eVar 1, eIx (eVar 0) (eC (.int 0))], eIx (eVar 0) (eC (.int 1))], eCall T "turned" [eCall T "square" [eIx (eVar 0) (eC (.int 1))]]]) (gVar 2), sRet (eCall T "sum_of" [eIx (eVar 0) (eC (.int 0)), eCall T "scaled" [eIx (eVar 0) (eC (.int 1)), eVar 2]])]
def N_foot : List Str := ["line", "point"]
def t_foot (T : Tab) : SS := sSeq [sExpr (eCall T "check_line" [eVar 0]), sExpr (eCall T "demand_way" [eVar 1, eC (.str "point")]), sRet (eCall T "foot_of" [eVar 0, eVar 1])]
def N_plane_foot_of : List Str := ["plane", "point", "share"]
def t_plane_foot_of (T : Tab) : SS := sSeq [sAsg (eCall T "multiplied" [eCall T "height" [eVar 0, eVar 1], eCall T "turned" [eCall T "square" [eSlice (eVar 0) none (some (eC (.int 3)))]]]) (gVar 2), sRet (eCall T "less" [eVar 1, eCall T "scaled" [eSlice (eVar 0) none (some (eC (.int 3))), eVar 2]])]
def N_plane_foot : List Str := ["plane", "point"]
def t_plane_foot (T : Tab) : SS := sSeq [sExpr (eCall T "check_plane" [eVar 0]), sExpr (eCall T "demand_way" [eVar 1, eC (.str "point")]), sRet (eCall T "plane_foot_of" [eVar 0, eVar 1])]
def N__law_line : List Str := ["point", "way", "own", "place", "k"]
def t__law_line (T : Tab) : SS := sSeq [sAsg (eCall T "_law_lean" [eVar 1]) (gVar 2), sAsg (eIx (eComp (iRange1 (eC (.int 3))) [4] (gVar 4) (tE (eCmp .ne (eIx (eIx (eVar 2) (eVar 4)) (eC (.int 0))) (eC (.int 0)))) (eVar 4)) (eC (.int 0))) (gVar 3), sRet (eTup [eCall T "_law_gap" [eVar 0, eCall T "_law_times" [eVar 2, eIx (eVar 0) (eVar 3)]], eVar 2])]
def N__law_plane : List Str := ["up", "point", "way"]
def t__law_plane (T : Tab) : SS := sSeq [sAsg (eCall T "_law_lean" [eVar 0]) (gVar 2), sRet (eBin addD (eVar 2) (eTup [eCall T "_law_dot" [eVar 2, eVar 1]]))]
def N__law_height : List Str := ["plane", "point"]
def t__law_height (T : Tab) : SS := sSeq [sRet (eCall T "_law_add" [eCall T "_law_dot" [eSlice (eVar 0) none (some (eC (.int 3))), eVar 1], eCall T "_law_neg" [eIx (eVar 0) (eC (.int 3))]])]
def N__law_some : List Str := ["draws", "at", "way"]
def t__law_some (T : Tab) : SS := sSeq [sAsg (eCall T "_law_way" [eC (.int 3), eVar 0, eVar 1]) (gVar 2), sRet (eIf (tE (eCall T "_law_is_none" [eVar 2])) (eTup [eTup [eC (.int 1), eC (.int 1)], eTup [eC (.int 2), eC (.int 1)], eTup [eC (.int 0), eC (.int 1)]]) (eVar 2))]
def N__law_on : List Str := ["line", "point"]
def t__law_on (T : Tab) : SS := sSeq [sRet (eCall T "_law_is_none" [eCall T "_law_cross" [eIx (eVar 0) (eC (.int 1)), eCall T "_law_gap" [eVar 1, eIx (eVar 0) (eC (.int 0))]]])]
def N_root_of : List Str := ["one", "roots", "part", "root"]
def t_root_of (T : Tab) : SS := sSeq [sIf (tE (eCmp .lt (eIx (eVar 0) (eC (.int 0))) (eC (.int 0)))) (sSeq [sRet (eC .non)]) (sSeq []), sAsg (eComp (iE (eVar 0)) [2] (gVar 2) tYes (eCall T "whole_root" [eVar 2])) (gVar 1), sIf (tE (eAnyC (iZip (eVar 1) (eVar 0)) [3, 2] (gTup [gVar 3, gVar 2]) tYes (eCmp .ne (eBin mulD (eVar 3) (eVar 3)) (eVar 2)))) (sSeq [sRet (eC .non)]) (sSeq []), sRet (eTup [eIx (eVar 1) (eC (.int 0)), eIx (eVar 1) (eC (.int 1))])]
def N_apart : List Str := ["one", "other"]
def t_apart (T : Tab) : SS := sSeq [sRet (eCall T "square" [eCall T "less" [eVar 0, eVar 1]])]
def N_check_sphere : List Str := ["sphere"]
def t_check_sphere (T : Tab) : SS := sSeq [sIf (tOr (tNot (tE (eB1 (isaD ["tuple"]) (eVar 0)))) (tE (eCmp .ne (eB1 lenD (eVar 0)) (eC (.int 2))))) (sSeq [sRaise T "CheckError" [eC (.str "form")]]) (sSeq []), sIf (tNot (tE (eCall T "is_way" [eIx (eVar 0) (eC (.int 0))]))) (sSeq [sRaise T "CheckError" [eC (.str "middle")]]) (sSeq []), sIf (tOr (tNot (tE (eCall T "is_small" [eIx (eVar 0) (eC (.int 1))]))) (tE (eCmp .le (eIx (eIx (eVar 0) (eC (.int 1))) (eC (.int 0))) (eC (.int 0))))) (sSeq [sRaise T "CheckError" [eC (.str "square")]]) (sSeq [])]
def N_power_of : List Str := ["sphere", "point"]
def t_power_of (T : Tab) : SS := sSeq [sRet (eCall T "added" [eCall T "apart" [eIx (eVar 0) (eC (.int 0)), eVar 1], eCall T "negated" [eIx (eVar 0) (eC (.int 1))]])]
def N_through_four : List Str := ["points"]
def t_through_four (T : Tab) : SS := sSeq [sExpr (eCall T "demand_rows" [eVar 0, eC (.int 4), eC (.int 4), eC (.str "points")]), sRet (eCall T "sphere_of" [eVar 0])]
def N_sphere_of : List Str := ["points", "planes", "point", "way", "middle"]
def t_sphere_of (T : Tab) : SS := sSeq [sAsg (eLst []) (gVar 1), sFor (iE (eSlice (eVar 0) (some (eC (.int 1))) none)) (gVar 2) (sSeq [sAsg (eCall T "less" [eVar 2, eIx (eVar 0) (eC (.int 0))]) (gVar 3), sExpr (eApp (eVar 1) (eBin addD (eVar 3) (eTup [eCall T "dot" [eVar 3, eCall T "scaled" [eCall T "sum_of" [eVar 2, eIx (eVar 0) (eC (.int 0))], eTup [eC (.int 1), eC (.int 2)]]]])))]), sAsg (eCall T "solve" [eIx (eVar 1) (eC (.int 0)), eIx (eVar 1) (eC (.int 1)), eIx (eVar 1) (eC (.int 2))]) (gVar 4), sRet (eIf (tE (eCmp .is_ (eVar 4) (eC .non))) (eC .non) (eTup [eVar 4, eCall T "apart" [eVar 4, eIx (eVar 0) (eC (.int 0))]]))]
def N__law_square : List Str := ["one", "other", "gap"]
def t__law_square (T : Tab) : SS := sSeq [sAsg (eCall T "_law_gap" [eVar 0, eVar 1]) (gVar 2), sRet (eCall T "_law_dot" [eVar 2, eVar 2])]
def N__law_root : List Str := ["share", "roots", "part", "k"]
def t__law_root (T : Tab) : SS := sSeq [sAsg (eLst []) (gVar 1), sFor (iE (eVar 0)) (gVar 2) (sSeq [sAsg (eBin addD (eVar 1) (eComp (iRange1 (eC (.int 1500))) [3] (gVar 3) (tE (eCmp .eq (eBin mulD (eVar 3) (eVar 3)) (eVar 2))) (eVar 3))) (gVar 1)]), sRet (eIf (tE (eCmp .eq (eB1 lenD (eVar 1)) (eC (.int 2)))) (eTup [eIx (eVar 1) (eC (.int 0)), eIx (eVar 1) (eC (.int 1))]) (eC .non))]
def N_is_any_way : List Str := ["value", "part"]
def t_is_any_way (T : Tab) : SS := sSeq [sRet (eAnd (eB1 (isaD ["tuple"]) (eVar 0)) (eAnd (eCmp .eq (eB1 lenD (eVar 0)) (eC (.int 3))) (eAllC (iE (eVar 0)) [1] (gVar 1) tYes (eCall T "is_fraction" [eVar 1]))))]
def N_is_plane_told : List Str := ["value"]
def t_is_plane_told (T : Tab) : SS := sSeq [sIf (tOr (tNot (tE (eB1 (isaD ["tuple"]) (eVar 0)))) (tOr (tE (eCmp .ne (eB1 lenD (eVar 0)) (eC (.int 4)))) (tOr (tNot (tE (eCall T "is_any_way" [eSlice (eVar 0) none (some (eC (.int 3)))]))) (tNot (tE (eCall T "is_fraction" [eIx (eVar 0) (eC (.int 3))])))))) (sSeq [sRet (eC (.bl false))]) (sSeq []), sRet (eAnd (eCmp .ne (eSlice (eVar 0) none (some (eC (.int 3)))) (eGlob T "NONE")) (eCmp .eq (eCall T "lean" [eSlice (eVar 0) none (some (eC (.int 3)))]) (eSlice (eVar 0) none (some (eC (.int 3))))))]
def N_check_motion : List Str := ["motion", "row"]
def t_check_motion (T : Tab) : SS := sSeq [sIf (tOr (tNot (tE (eB1 (isaD ["tuple"]) (eVar 0)))) (tE (eCmp .ne (eB1 lenD (eVar 0)) (eC (.int 2))))) (sSeq [sRaise T "CheckError" [eC (.str "form")]]) (sSeq []), sIf (tOr (tNot (tE (eB1 (isaD ["tuple"]) (eIx (eVar 0) (eC (.int 0)))))) (tE (eCmp .ne (eB1 lenD (eIx (eVar 0) (eC (.int 0)))) (eC (.int 3))))) (sSeq [sRaise T "CheckError" [eC (.str "form")]]) (sSeq []), sIf (tOr (tNot (tE (eAllC (iE (eIx (eVar 0) (eC (.int 0)))) [1] (gVar 1) tYes (eCall T "is_way" [eVar 1])))) (tNot (tE (eCall T "is_way" [eIx (eVar 0) (eC (.int 1))])))) (sSeq [sRaise T "CheckError" [eC (.str "part")]]) (sSeq []), sIf (tNot (tE (eCall T "keeps_lengths" [eIx (eVar 0) (eC (.int 0))]))) (sSeq [sRaise T "CheckError" [eC (.str "lengths")]]) (sSeq [])]
def N_turned_way : List Str := ["rows", "way", "row"]
def t_turned_way (T : Tab) : SS := sSeq [sRet (eTupC (iE (eVar 0)) [2] (gVar 2) tYes (eCall T "dot" [eVar 2, eVar 1]))]
def N_columns_of : List Str := ["rows", "place", "row"]
def t_columns_of (T : Tab) : SS := sSeq [sRet (eTupC (iRange1 (eC (.int 3))) [1] (gVar 1) tYes (eTupC (iE (eVar 0)) [2] (gVar 2) tYes (eIx (eVar 2) (eVar 1))))]
def N_table_times : List Str := ["one", "other", "columns", "row", "column"]
def t_table_times (T : Tab) : SS := sSeq [sAsg (eCall T "columns_of" [eVar 1]) (gVar 2), sRet (eTupC (iE (eVar 0)) [3] (gVar 3) tYes (eTupC (iE (eVar 2)) [4] (gVar 4) tYes (eCall T "dot" [eVar 3, eVar 4])))]
def N_back_of : List Str := ["table", "a", "b", "c", "d"]
def t_back_of (T : Tab) : SS := sSeq [sAsg (eVar 0) (gTup [gVar 1, gVar 2, gVar 3, gVar 4]), sRet (eTup [eVar 4, eBin subD (eC (.int 0)) (eVar 2), eBin subD (eC (.int 0)) (eVar 3), eVar 1])]
def N_back : List Str := ["motion"]
def t_back (T : Tab) : SS := sSeq [sExpr (eCall T "check_motion" [eVar 0]), sRet (eCall T "back_of" [eVar 0])]
def N_is_even_of : List Str := ["motion"]
def t_is_even_of (T : Tab) : SS := sSeq [sRet (eCmp .eq (eCall T "box" [eIx (eIx (eVar 0) (eC (.int 0))) (eC (.int 0)), eIx (eIx (eVar 0) (eC (.int 0))) (eC (.int 1)), eIx (eIx (eVar 0) (eC (.int 0))) (eC (.int 2))]) (eGlob T "ONE"))]
def N_trace_of : List Str := ["rows"]
def t_trace_of (T : Tab) : SS := sSeq [sRet (eCall T "added" [eCall T "added" [eIx (eIx (eVar 0) (eC (.int 0))) (eC (.int 0)), eIx (eIx (eVar 0) (eC (.int 1))) (eC (.int 1))], eIx (eIx (eVar 0) (eC (.int 2))) (eC (.int 2))])]
def N_kind : List Str := ["motion"]
def t_kind (T : Tab) : SS := sSeq [sExpr (eCall T "check_motion" [eVar 0]), sRet (eCall T "kind_of" [eVar 0])]
def N_is_even : List Str := ["motion"]
def t_is_even (T : Tab) : SS := sSeq [sExpr (eCall T "check_motion" [eVar 0]), sRet (eCall T "is_even_of" [eVar 0])]
def N_mirrors : List Str := ["motion"]
def t_mirrors (T : Tab) : SS := sSeq [sExpr (eCall T "check_motion" [eVar 0]), sRet (eCall T "mirrors_of" [eVar 0])]
def N__law_units : List Str := ["none", "one"]
def t__law_units (T : Tab) : SS := sSeq [sAsg (eTup [eTup [eC (.int 0), eC (.int 1)], eTup [eC (.int 1), eC (.int 1)]]) (gTup [gVar 0, gVar 1]), sRet (eTup [eTup [eVar 1, eVar 0, eVar 0], eTup [eVar 0, eVar 1, eVar 0], eTup [eVar 0, eVar 0, eVar 1]])]
def N_check_four : List Str := ["four", "part"]
def t_check_four (T : Tab) : SS := sSeq [sIf (tOr (tNot (tE (eB1 (isaD ["tuple"]) (eVar 0)))) (tE (eCmp .ne (eB1 lenD (eVar 0)) (eC (.int 4))))) (sSeq [sRaise T "CheckError" [eC (.str "form")]]) (sSeq []), sIf (tNot (tE (eAllC (iE (eVar 0)) [1] (gVar 1) tYes (eCall T "is_small" [eVar 1])))) (sSeq [sRaise T "CheckError" [eC (.str "part")]]) (sSeq []), sIf (tE (eCmp .eq (eVar 0) (eBin mulD (eTup [eGlob T "ZERO"]) (eC (.int 4))))) (sSeq [sRaise T "CheckError" [eC (.str "noughts")]]) (sSeq [])]
def N_product_of : List Str := ["one", "other", "a", "b", "c", "d", "e", "f", "g", "h"]
def t_product_of (T : Tab) : SS := sSeq [sAsg (eVar 0) (gTup [gVar 2, gVar 3, gVar 4, gVar 5]), sAsg (eVar 1) (gTup [gVar 6, gVar 7, gVar 8, gVar 9]), sRet (eTup [eBin addD (eBin mulD (eVar 2) (eVar 6)) (eBin mulD (eVar 3) (eVar 8)), eBin addD (eBin mulD (eVar 2) (eVar 7)) (eBin mulD (eVar 3) (eVar 9)), eBin addD (eBin mulD (eVar 4) (eVar 6)) (eBin mulD (eVar 5) (eVar 8)), eBin addD (eBin mulD (eVar 4) (eVar 7)) (eBin mulD (eVar 5) (eVar 9))])]
def N__law_back : List Str := ["table"]
def t__law_back (T : Tab) : SS := sSeq [sRet (eTup [eIx (eVar 0) (eC (.int 3)), eBin subD (eC (.int 0)) (eIx (eVar 0) (eC (.int 1))), eBin subD (eC (.int 0)) (eIx (eVar 0) (eC (.int 2))), eIx (eVar 0) (eC (.int 0))])]
def N_faces : List Str := ["points"]
def t_faces (T : Tab) : SS := sSeq [sExpr (eCall T "demand_points" [eVar 0]), sRet (eB1 tupleD (eCall T "faces_of" [eVar 0]))]
def N_place_of : List Str := ["points", "point", "signs", "up", "bound", "sign"]
def t_place_of (T : Tab) : SS := sSeq [sAsg (eComp (iE (eCall T "planes_of" [eVar 0])) [3, 4] (gTup [gVar 3, gVar 4]) tYes (eCall T "order_of" [eCall T "dot" [eVar 3, eVar 1], eVar 4])) (gVar 2), sIf (tE (eAnyC (iE (eVar 2)) [5] (gVar 5) tYes (eCmp .gt (eVar 5) (eC (.int 0))))) (sSeq [sRet (eC (.str "outside"))]) (sSeq []), sRet (eIf (tE (eAnyC (iE (eVar 2)) [5] (gVar 5) tYes (eCmp .eq (eVar 5) (eC (.int 0))))) (eC (.str "rim")) (eC (.str "inside")))]
def N__law_corners : List Str := ["points", "planes", "k", "up", "bound", "places"]
def t__law_corners (T : Tab) : SS := sSeq [sRet (eComp (iRange1 (eB1 lenD (eVar 0))) [2] (gVar 2) (tE (eCmp .eq (eCall T "_law_rank" [eComp (iE (eVar 1)) [3, 4, 5] (gTup [gVar 3, gVar 4, gVar 5]) (tE (eCmp .in_ (eVar 2) (eVar 5))) (eVar 3)]) (eC (.int 3)))) (eVar 2))]
def N__law_minus : List Str := ["one", "other", "k"]
def t__law_minus (T : Tab) : SS := sSeq [sRet (eTupC (iRange1 (eB1 lenD (eVar 0))) [2] (gVar 2) tYes (eCall T "_law_add" [eIx (eVar 0) (eVar 2), eCall T "_law_neg" [eIx (eVar 1) (eVar 2)]]))]
def N__law_plus : List Str := ["one", "other"]
def t__law_plus (T : Tab) : SS := sSeq [sRet (eCall T "_law_made" [eBin addD (eBin mulD (eIx (eVar 0) (eC (.int 0))) (eIx (eVar 1) (eC (.int 1)))) (eBin mulD (eIx (eVar 1) (eC (.int 0))) (eIx (eVar 0) (eC (.int 1)))), eBin mulD (eIx (eVar 0) (eC (.int 1))) (eIx (eVar 1) (eC (.int 1)))])]
def N__law_order : List Str := ["one", "other", "rest"]
def t__law_order (T : Tab) : SS := sSeq [sAsg (eBin subD (eBin mulD (eIx (eVar 0) (eC (.int 0))) (eIx (eVar 1) (eC (.int 1)))) (eBin mulD (eIx (eVar 1) (eC (.int 0))) (eIx (eVar 0) (eC (.int 1))))) (gVar 2), sRet (eBin subD (eB1 intD (eCmp .gt (eVar 2) (eC (.int 0)))) (eB1 intD (eCmp .lt (eVar 2) (eC (.int 0)))))]
def N__law_point : List Str := ["draws", "at", "k"]
def t__law_point (T : Tab) : SS := sSeq [sRet (eTupC (iRange1 (eC (.int 3))) [2] (gVar 2) tYes (eCall T "_law_share" [eVar 0, eVar 1]))]
def N_is_new : List Str := ["found", "places", "up", "own"]
def t_is_new (T : Tab) : SS := sSeq [sRet (eAllC (iE (eVar 0)) [2, 3] (gTup [gVar 2, gVar 3]) tYes (eCmp .ne (eVar 3) (eVar 1)))]
def N_put_face : List Str := ["found", "up", "places"]
def t_put_face (T : Tab) : SS := sSeq [sRet (eIf (tE (eCall T "is_new" [eVar 0, eVar 2])) (eBin addD (eVar 0) (eLst [eTup [eVar 1, eVar 2]])) (eVar 0))]
def N_turn : List Str := ["points", "one", "other", "third"]
def t_turn (T : Tab) : SS := sSeq [sRet (eCall T "cross" [eCall T "less" [eIx (eVar 0) (eVar 2), eIx (eVar 0) (eVar 1)], eCall T "less" [eIx (eVar 0) (eVar 3), eIx (eVar 0) (eVar 1)]])]
def N_is_between_some : List Str := ["points", "place", "places", "here", "others", "one", "other", "first", "second", "third"]
def t_is_between_some (T : Tab) : SS := sSeq [sAsg (eIx (eVar 0) (eVar 1)) (gVar 3), sAsg (eComp (iE (eVar 2)) [5] (gVar 5) (tE (eCmp .ne (eVar 5) (eVar 1))) (eIx (eVar 0) (eVar 5))) (gVar 4), sFor (iE (eVar 4)) (gVar 5) (sSeq [sFor (iE (eVar 4)) (gVar 6) (sSeq [sAsg (eTup [eCall T "less" [eVar 5, eVar 3], eCall T "less" [eVar 6, eVar 3]]) (gTup [gVar 7, gVar 8]), sIf (tAnd (tE (eCall T "are_along" [eVar 7, eVar 8])) (tE (eCmp .lt (eIx (eCall T "dot" [eVar 7, eVar 8]) (eC (.int 0))) (eC (.int 0))))) (sSeq [sRet (eC (.bl true))]) (sSeq [])])]), sFor (iRange1 (eB1 lenD (eVar 4))) (gVar 5) (sSeq [sFor (iRange2 (eBin addD (eVar 5) (eC (.int 1))) (eB1 lenD (eVar 4))) (gVar 6) (sSeq [sFor (iRange2 (eBin addD (eVar 6) (eC (.int 1))) (eB1 lenD (eVar 4))) (gVar 9) (sSeq [sIf (tE (eCall T "is_within" [eVar 3, eTup [eIx (eVar 4) (eVar 5), eIx (eVar 4) (eVar 6), eIx (eVar 4) (eVar 9)]])) (sSeq [sRet (eC (.bl true))]) (sSeq [])])])]), sRet (eC (.bl false))]
def N_is_within : List Str := ["point", "three", "up", "number", "one", "other"]
def t_is_within (T : Tab) : SS := sSeq [sAsg (eCall T "cross" [eCall T "less" [eIx (eVar 1) (eC (.int 1)), eIx (eVar 1) (eC (.int 0))], eCall T "less" [eIx (eVar 1) (eC (.int 2)), eIx (eVar 1) (eC (.int 0))]]) (gVar 2), sIf (tE (eCmp .eq (eVar 2) (eGlob T "NONE"))) (sSeq [sRet (eC (.bl false))]) (sSeq []), sFor (iRange1 (eC (.int 3))) (gVar 3) (sSeq [sAsg (eTup [eIx (eVar 1) (eVar 3), eIx (eVar 1) (eBin modD (eBin addD (eVar 3) (eC (.int 1))) (eC (.int 3)))]) (gTup [gVar 4, gVar 5]), sIf (tE (eCmp .le (eIx (eCall T "dot" [eVar 2, eCall T "cross" [eCall T "less" [eVar 5, eVar 4], eCall T "less" [eVar 0, eVar 4]]]) (eC (.int 0))) (eC (.int 0)))) (sSeq [sRet (eC (.bl false))]) (sSeq [])]), sRet (eC (.bl true))]
def N_edges : List Str := ["points"]
def t_edges (T : Tab) : SS := sSeq [sExpr (eCall T "demand_points" [eVar 0]), sRet (eB1 tupleD (eCall T "edges_of" [eCall T "faces_of" [eVar 0]]))]
def N_volume_of : List Str := ["points", "total", "whole", "corner"]
def t_volume_of (T : Tab) : SS := sSeq [sAsg (eGlob T "ZERO") (gVar 1), sFor (iE (eCall T "parts_of" [eVar 0])) (gTup [gVar 2, gVar 3]) (sSeq [sAsg (eCall T "added" [eVar 1, eVar 2]) (gVar 1)]), sRet (eCall T "multiplied" [eVar 1, eTup [eC (.int 1), eC (.int 6)]])]
def N_planes_of : List Str := ["points", "up", "places"]
def t_planes_of (T : Tab) : SS := sSeq [sRet (eComp (iE (eCall T "face_planes" [eVar 0])) [1, 2] (gTup [gVar 1, gVar 2]) tYes (eTup [eVar 1, eCall T "dot" [eVar 1, eIx (eVar 0) (eIx (eVar 2) (eC (.int 0)))]]))]
def N_double_way : List Str := ["points", "face", "total", "one", "other"]
def t_double_way (T : Tab) : SS := sSeq [sAsg (eGlob T "NONE") (gVar 2), sFor (iZip (eSlice (eVar 1) (some (eC (.int 1))) (some (eUn negD (eC (.int 1))))) (eSlice (eVar 1) (some (eC (.int 2))) none)) (gTup [gVar 3, gVar 4]) (sSeq [sAsg (eCall T "sum_of" [eVar 2, eCall T "turn" [eVar 0, eIx (eVar 1) (eC (.int 0)), eVar 3, eVar 4]]) (gVar 2)]), sRet (eVar 2)]
def N__law_scaled : List Str := ["way", "share", "a"]
def t__law_scaled (T : Tab) : SS := sSeq [sRet (eTupC (iE (eVar 0)) [2] (gVar 2) tYes (eCall T "_law_times" [eVar 2, eVar 1]))]
def N__law_place : List Str := ["planes", "point", "signs", "up", "bound", "places"]
def t__law_place (T : Tab) : SS := sSeq [sAsg (eComp (iE (eVar 0)) [3, 4, 5] (gTup [gVar 3, gVar 4, gVar 5]) tYes (eCall T "_law_order" [eCall T "_law_dot" [eVar 3, eVar 1], eVar 4])) (gVar 2), sRet (eIf (tE (eCmp .in_ (eC (.int 1)) (eVar 2))) (eC (.str "outside")) (eIf (tE (eCmp .in_ (eC (.int 0)) (eVar 2))) (eC (.str "rim")) (eC (.str "inside"))))]
def N__law_ill_points : List Str := ["draws", "at", "none", "one", "good", "rows"]
def t__law_ill_points (T : Tab) : SS := sSeq [sAsg (eTup [eTup [eC (.int 0), eC (.int 1)], eTup [eC (.int 1), eC (.int 1)]]) (gTup [gVar 2, gVar 3]), sAsg (eTup [eTup [eVar 2, eVar 2, eVar 2], eTup [eVar 3, eVar 2, eVar 2], eTup [eVar 2, eVar 3, eVar 2], eTup [eVar 2, eVar 2, eVar 3]]) (gVar 4), sAsg (eLst [eC .non, eB1 listD (eVar 4), eSlice (eVar 4) none (some (eC (.int 3))), eBin addD (eSlice (eVar 4) none (some (eC (.int 3)))) (eTup [eTup [eVar 3, eVar 3, eVar 2]]), eBin addD (eVar 4) (eSlice (eVar 4) none (some (eC (.int 1)))), eBin addD (eSlice (eVar 4) none (some (eC (.int 3)))) (eTup [eTup [eVar 2, eVar 2]]), eBin addD (eSlice (eVar 4) none (some (eC (.int 3)))) (eTup [eTup [eVar 2, eVar 2, eC (.int 1)]]), eBin addD (eSlice (eVar 4) none (some (eC (.int 3)))) (eTup [eTup [eVar 2, eVar 2, eTup [eC (.int 2), eC (.int 4)]]])]) (gVar 5), sRet (eCall T "_law_one" [eBin addD (eVar 5) (eLst [eBin addD (eSlice (eVar 4) none (some (eC (.int 3)))) (eTup [eTup [eVar 2, eVar 2, eTup [eC (.int 1000001), eC (.int 1)]]]), eBin addD (eSlice (eVar 4) none (some (eC (.int 3)))) (eTup [eLst [eVar 2, eVar 2, eVar 3]]), eBin addD (eSlice (eVar 4) none (some (eC (.int 3)))) (eTup [eTup [eVar 2, eVar 2, eTup [eC (.bl true), eC (.int 1)]]]), eBin mulD (eVar 4) (eC (.int 4)), eTup []]), eVar 0, eVar 1])]
def N_is_ahead : List Str := ["one", "other", "part", "own"]
def t_is_ahead (T : Tab) : SS := sSeq [sFor (iZip (eVar 0) (eVar 1)) (gTup [gVar 2, gVar 3]) (sSeq [sIf (tE (eCmp .ne (eVar 2) (eVar 3))) (sSeq [sRet (eCmp .lt (eCall T "order_of" [eVar 2, eVar 3]) (eC (.int 0)))]) (sSeq [])]), sRet (eC (.bl false))]
def N__law_common : List Str := ["one", "other"]
def t__law_common (T : Tab) : SS := sSeq [sAsg (eTup [eB1 absD (eVar 0), eB1 absD (eVar 1)]) (gTup [gVar 0, gVar 1]), sWhile (tE (eCmp .gt (eVar 1) (eC (.int 0)))) (sSeq [sAsg (eTup [eVar 1, eBin modD (eB1 intD (eVar 0)) (eVar 1)]) (gTup [gVar 0, gVar 1])]), sRet (eVar 0)]
def N_is_place : List Str := ["value"]
def t_is_place (T : Tab) : SS := sSeq [sRet (eAnd (eCall T "is_way" [eVar 0]) (eCmp .eq (eCall T "square" [eVar 0]) (eGlob T "ONE")))]
def N_demand_place : List Str := ["value", "reason"]
def t_demand_place (T : Tab) : SS := sSeq [sIf (tNot (tE (eCall T "is_place" [eVar 0]))) (sSeq [sRaise T "ArgumentError" [eVar 1]]) (sSeq [])]
def N_is_pair : List Str := ["value", "part"]
def t_is_pair (T : Tab) : SS := sSeq [sRet (eAnd (eB1 (isaD ["tuple"]) (eVar 0)) (eAnd (eCmp .eq (eB1 lenD (eVar 0)) (eC (.int 2))) (eAllC (iE (eVar 0)) [1] (gVar 1) tYes (eCall T "is_small" [eVar 1]))))]
def N_form : List Str := ["one", "other", "first"]
def t_form (T : Tab) : SS := sSeq [sAsg (eCall T "multiplied" [eIx (eVar 0) (eC (.int 0)), eIx (eVar 1) (eC (.int 0))]) (gVar 2), sRet (eCall T "added" [eVar 2, eCall T "negated" [eCall T "added" [eCall T "multiplied" [eIx (eVar 0) (eC (.int 1)), eIx (eVar 1) (eC (.int 1))], eCall T "multiplied" [eIx (eVar 0) (eC (.int 2)), eIx (eVar 1) (eC (.int 2))]]]])]
def N_row_of : List Str := ["point"]
def t_row_of (T : Tab) : SS := sSeq [sRet (eBin addD (eTup [eGlob T "ONE"]) (eVar 0))]
def N_point_of : List Str := ["row", "under"]
def t_point_of (T : Tab) : SS := sSeq [sAsg (eCall T "turned" [eIx (eVar 0) (eC (.int 0))]) (gVar 1), sRet (eTup [eCall T "multiplied" [eIx (eVar 0) (eC (.int 1)), eVar 1], eCall T "multiplied" [eIx (eVar 0) (eC (.int 2)), eVar 1]])]
def N_is_point : List Str := ["value", "part"]
def t_is_point (T : Tab) : SS := sSeq [sIf (tOr (tNot (tE (eB1 (isaD ["tuple"]) (eVar 0)))) (tOr (tE (eCmp .ne (eB1 lenD (eVar 0)) (eC (.int 2)))) (tNot (tE (eAllC (iE (eVar 0)) [1] (gVar 1) tYes (eCall T "is_small" [eVar 1])))))) (sSeq [sRet (eC (.bl false))]) (sSeq []), sRet (eCmp .gt (eIx (eCall T "form" [eCall T "row_of" [eVar 0], eCall T "row_of" [eVar 0]]) (eC (.int 0))) (eC (.int 0)))]
def N_demand_point : List Str := ["value", "reason"]
def t_demand_point (T : Tab) : SS := sSeq [sIf (tNot (tE (eCall T "is_point" [eVar 0]))) (sSeq [sRaise T "ArgumentError" [eVar 1]]) (sSeq [])]
def N_lean_line : List Str := ["line", "lead", "part"]
def t_lean_line (T : Tab) : SS := sSeq [sAsg (eIx (eComp (iE (eVar 0)) [2] (gVar 2) (tE (eIx (eVar 2) (eC (.int 0)))) (eVar 2)) (eC (.int 0))) (gVar 1), sRet (eCall T "scaled" [eVar 0, eCall T "turned" [eVar 1]])]
def N_pole_row : List Str := ["line"]
def t_pole_row (T : Tab) : SS := sSeq [sRet (eTup [eIx (eVar 0) (eC (.int 2)), eIx (eVar 0) (eC (.int 0)), eIx (eVar 0) (eC (.int 1))])]
def N_line_from : List Str := ["row"]
def t_line_from (T : Tab) : SS := sSeq [sRet (eCall T "lean_line" [eTup [eIx (eVar 0) (eC (.int 1)), eIx (eVar 0) (eC (.int 2)), eIx (eVar 0) (eC (.int 0))]])]
def N_upright_row : List Str := ["one", "other", "up"]
def t_upright_row (T : Tab) : SS := sSeq [sAsg (eCall T "cross" [eVar 0, eVar 1]) (gVar 2), sRet (eTup [eIx (eVar 2) (eC (.int 0)), eCall T "negated" [eIx (eVar 2) (eC (.int 1))], eCall T "negated" [eIx (eVar 2) (eC (.int 2))]])]
def N_gap_of : List Str := ["one", "other", "top"]
def t_gap_of (T : Tab) : SS := sSeq [sAsg (eCall T "form" [eVar 0, eVar 1]) (gVar 2), sRet (eCall T "multiplied" [eCall T "multiplied" [eVar 2, eVar 2], eCall T "turned" [eCall T "multiplied" [eCall T "form" [eVar 0, eVar 0], eCall T "form" [eVar 1, eVar 1]]]])]
def N_foot_row : List Str := ["line", "row", "pole", "share"]
def t_foot_row (T : Tab) : SS := sSeq [sAsg (eCall T "pole_row" [eVar 0]) (gVar 2), sAsg (eCall T "multiplied" [eCall T "form" [eVar 1, eVar 2], eCall T "turned" [eCall T "form" [eVar 2, eVar 2]]]) (gVar 3), sRet (eCall T "sum_of" [eVar 1, eCall T "scaled" [eVar 2, eCall T "negated" [eVar 3]]])]
def N__law_form : List Str := ["one", "other"]
def t__law_form (T : Tab) : SS := sSeq [sRet (eCall T "_law_add" [eCall T "_law_mul" [eIx (eVar 0) (eC (.int 0)), eIx (eVar 1) (eC (.int 0))], eCall T "_law_neg" [eCall T "_law_add" [eCall T "_law_mul" [eIx (eVar 0) (eC (.int 1)), eIx (eVar 1) (eC (.int 1))], eCall T "_law_mul" [eIx (eVar 0) (eC (.int 2)), eIx (eVar 1) (eC (.int 2))]]]])]
def N__law_row : List Str := ["point"]
def t__law_row (T : Tab) : SS := sSeq [sRet (eBin addD (eTup [eTup [eC (.int 1), eC (.int 1)]]) (eVar 0))]
def N__law_pole : List Str := ["line"]
def t__law_pole (T : Tab) : SS := sSeq [sRet (eTup [eIx (eVar 0) (eC (.int 2)), eIx (eVar 0) (eC (.int 0)), eIx (eVar 0) (eC (.int 1))])]
def N__law_across : List Str := ["one", "other", "up"]
def t__law_across (T : Tab) : SS := sSeq [sAsg (eCall T "_law_cross" [eVar 0, eVar 1]) (gVar 2), sRet (eTup [eIx (eVar 2) (eC (.int 0)), eCall T "_law_neg" [eIx (eVar 2) (eC (.int 1))], eCall T "_law_neg" [eIx (eVar 2) (eC (.int 2))]])]
def N__law_spot : List Str := ["row", "under"]
def t__law_spot (T : Tab) : SS := sSeq [sAsg (eCall T "_law_turned" [eIx (eVar 0) (eC (.int 0))]) (gVar 1), sRet (eTup [eCall T "_law_mul" [eIx (eVar 0) (eC (.int 1)), eVar 1], eCall T "_law_mul" [eIx (eVar 0) (eC (.int 2)), eVar 1]])]
def N__law_chord : List Str := ["row"]
def t__law_chord (T : Tab) : SS := sSeq [sRet (eCall T "_law_lean" [eTup [eIx (eVar 0) (eC (.int 1)), eIx (eVar 0) (eC (.int 2)), eIx (eVar 0) (eC (.int 0))]])]
def N__law_far : List Str := ["one", "other", "top"]
def t__law_far (T : Tab) : SS := sSeq [sAsg (eCall T "_law_form" [eVar 0, eVar 1]) (gVar 2), sRet (eCall T "_law_mul" [eCall T "_law_mul" [eVar 2, eVar 2], eCall T "_law_turned" [eCall T "_law_mul" [eCall T "_law_form" [eVar 0, eVar 0], eCall T "_law_form" [eVar 1, eVar 1]]]])]
def N__law_dot_in : List Str := ["draws", "at", "none", "half", "rows"]
def t__law_dot_in (T : Tab) : SS := sSeq [sAsg (eTup [eTup [eC (.int 0), eC (.int 1)], eTup [eC (.int 1), eC (.int 2)]]) (gTup [gVar 2, gVar 3]), sAsg (eLst [eTup [eVar 2, eVar 2], eTup [eVar 3, eVar 2], eTup [eVar 2, eVar 3], eTup [eTup [eC (.int 4), eC (.int 5)], eVar 2], eTup [eVar 2, eTup [eUn negD (eC (.int 3)), eC (.int 5)]], eTup [eTup [eC (.int 1), eC (.int 3)], eTup [eC (.int 1), eC (.int 3)]], eTup [eTup [eUn negD (eC (.int 1)), eC (.int 4)], eVar 3], eTup [eTup [eC (.int 3), eC (.int 5)], eVar 2], eTup [eVar 3, eVar 3], eTup [eTup [eUn negD (eC (.int 1)), eC (.int 2)], eVar 2]]) (gVar 4), sRet (eCall T "_law_one" [eBin addD (eVar 4) (eBin mulD (eLst [eTup [eCall T "_law_made" [eBin subD (eCall T "_law_take" [eVar 0, eVar 1, eC (.int 5)]) (eC (.int 2)), eC (.int 4)], eCall T "_law_made" [eBin subD (eCall T "_law_take" [eVar 0, eVar 1, eC (.int 5)]) (eC (.int 2)), eC (.int 3)]]]) (eC (.int 5))), eVar 0, eVar 1])]
def N__law_same : List Str := ["k", "j"]
def t__law_same (T : Tab) : SS := sSeq [sRet (eTupC (iRange1 (eC (.int 3))) [0] (gVar 0) tYes (eTupC (iRange1 (eC (.int 3))) [1] (gVar 1) tYes (eTup [eB1 intD (eCmp .eq (eVar 0) (eVar 1)), eC (.int 1)])))]
def N_is_closed_in : List Str := ["count", "faces", "corner"]
def t_is_closed_in (T : Tab) : SS := sSeq [sIf (tOr (tE (eCall T "rim_of" [eVar 1])) (tE (eAnyC (iRange1 (eVar 0)) [2] (gVar 2) tYes (eCmp .is_ (eCall T "around_of" [eVar 1, eVar 2]) (eC .non))))) (sSeq [sRet (eC (.bl false))]) (sSeq []), sRet (eCmp .eq (eB1 lenD (eCall T "groups_of" [eVar 0, eVar 1])) (eC (.int 1)))]
def N_demand_closed : List Str := ["count", "faces"]
def t_demand_closed (T : Tab) : SS := sSeq [sExpr (eCall T "check_faces" [eVar 0, eVar 1]), sIf (tNot (tE (eCall T "is_closed_in" [eVar 0, eVar 1]))) (sSeq [sRaise T "ArgumentError" [eC (.str "faces")]]) (sSeq [])]
def N_check_table : List Str := ["table", "part"]
def t_check_table (T : Tab) : SS := sSeq [sIf (tOr (tNot (tE (eB1 (isaD ["tuple"]) (eVar 0)))) (tE (eCmp .ne (eB1 lenD (eVar 0)) (eC (.int 4))))) (sSeq [sRaise T "CheckError" [eC (.str "form")]]) (sSeq []), sIf (tNot (tE (eAllC (iE (eVar 0)) [1] (gVar 1) tYes (eCall T "in_range" [eVar 1, eBin subD (eC (.int 0)) (eGlob T "MAX_ENTRY"), eGlob T "MAX_ENTRY"])))) (sSeq [sRaise T "CheckError" [eC (.str "entry")]]) (sSeq []), sIf (tE (eCmp .ne (eBin subD (eBin mulD (eIx (eVar 0) (eC (.int 0))) (eIx (eVar 0) (eC (.int 3)))) (eBin mulD (eIx (eVar 0) (eC (.int 1))) (eIx (eVar 0) (eC (.int 2))))) (eC (.int 1)))) (sSeq [sRaise T "CheckError" [eC (.str "one")]]) (sSeq [])]
def N__law_over : List Str := ["one", "other"]
def t__law_over (T : Tab) : SS := sSeq [sRet (eCall T "_law_made" [eBin mulD (eIx (eVar 0) (eC (.int 0))) (eIx (eVar 1) (eC (.int 1))), eBin mulD (eIx (eVar 0) (eC (.int 1))) (eIx (eVar 1) (eC (.int 0)))])]
def N__law_apart : List Str := ["one", "other"]
def t__law_apart (T : Tab) : SS := sSeq [sRet (eCall T "_law_dot" [eCall T "_law_less" [eVar 0, eVar 1], eCall T "_law_less" [eVar 0, eVar 1]])]
def N__law_share : List Str := ["draws", "at"]
def t__law_share (T : Tab) : SS := sSeq [sRet (eCall T "_law_one" [eLst [eTup [eC (.int 0), eC (.int 1)], eTup [eC (.int 1), eC (.int 1)], eTup [eC (.int 1), eC (.int 1)], eTup [eUn negD (eC (.int 1)), eC (.int 1)], eTup [eC (.int 2), eC (.int 1)], eTup [eUn negD (eC (.int 3)), eC (.int 1)], eTup [eC (.int 1), eC (.int 2)], eTup [eUn negD (eC (.int 2)), eC (.int 3)]], eVar 0, eVar 1])]
def N_integer_from : List Str := ["text", "signs", "sign"]
def t_integer_from (T : Tab) : SS := sSeq [sAsg (eIf (tE (eCmp .eq (eSlice (eVar 0) none (some (eC (.int 1)))) (eC (.str "-")))) (eSlice (eVar 0) (some (eC (.int 1))) none) (eVar 0)) (gVar 1), sIf (tOr (tNot (tE (eChain .le .le (eC (.int 1)) (eB1 lenD (eVar 1)) (eC (.int 7))))) (tNot (tE (eAllC (iE (eVar 1)) [2] (gVar 2) tYes (eCmp .in_ (eVar 2) (eC (.str "0123456789"))))))) (sSeq [sRet (eC .non)]) (sSeq []), sIf (tAnd (tE (eCmp .eq (eIx (eVar 1) (eC (.int 0))) (eC (.str "0")))) (tOr (tE (eCmp .gt (eB1 lenD (eVar 1)) (eC (.int 1)))) (tE (eCmp .eq (eSlice (eVar 0) none (some (eC (.int 1)))) (eC (.str "-")))))) (sSeq [sRet (eC .non)]) (sSeq []), sRet (eB1 intD (eVar 0))]
def N__law_plane_word : List Str := ["plane", "found", "letter", "part", "size", "sign"]
def t__law_plane_word (T : Tab) : SS := sSeq [sAsg (eC (.str "")) (gVar 1), sFor (iZip (eC (.str "xyz")) (eSlice (eVar 0) none (some (eC (.int 3))))) (gTup [gVar 2, gVar 3]) (sSeq [sIf (tE (eCmp .ne (eIx (eVar 3) (eC (.int 0))) (eC (.int 0)))) (sSeq [sAsg (eCall T "_law_number" [eTup [eB1 absD (eIx (eVar 3) (eC (.int 0))), eIx (eVar 3) (eC (.int 1))]]) (gVar 4), sAsg (eIf (tE (eCmp .eq (eVar 1) (eC (.str "")))) (eC (.str "")) (eIf (tE (eCmp .lt (eIx (eVar 3) (eC (.int 0))) (eC (.int 0)))) (eC (.str " - ")) (eC (.str " + ")))) (gVar 5), sAsg (eBin addD (eBin addD (eBin addD (eVar 1) (eVar 5)) (eIf (tE (eCmp .eq (eVar 4) (eC (.str "1")))) (eC (.str "")) (eBin addD (eVar 4) (eC (.str "*"))))) (eVar 2)) (gVar 1)]) (sSeq [])]), sRet (eBin addD (eBin addD (eVar 1) (eC (.str " = "))) (eCall T "_law_number" [eIx (eVar 0) (eC (.int 3))]))]
def N__law_is_fraction : List Str := ["told", "part"]
def t__law_is_fraction (T : Tab) : SS := sSeq [sIf (tOr (tNot (tE (eB1 (isaD ["tuple"]) (eVar 0)))) (tOr (tE (eCmp .ne (eB1 lenD (eVar 0)) (eC (.int 2)))) (tE (eCmp .ne (eComp (iE (eVar 0)) [1] (gVar 1) (tOr (tE (eB1 (isaD ["bool"]) (eVar 1))) (tNot (tE (eB1 (isaD ["int"]) (eVar 1))))) (eVar 1)) (eLst []))))) (sSeq [sRet (eC (.bl false))]) (sSeq []), sRet (eAnd (eCmp .gt (eIx (eVar 0) (eC (.int 1))) (eC (.int 0))) (eCmp .eq (eCall T "_law_common" [eIx (eVar 0) (eC (.int 0)), eIx (eVar 0) (eC (.int 1))]) (eC (.int 1))))]
end SL

-- SPf
set_option Elab.async false
set_option linter.all false
set_option maxRecDepth 100000
set_option maxHeartbeats 1000000
namespace SP
open PySem L2 SD SL
/-! ### basics, fractions -/
def isInt : D → Bool
  | .int _ => true
  | _ => false
def sp_is_integer : FnD := ⟨1, fun ds S _ Q => match ds with
  | [d] => (tyD d).isSome = true ∧ Q (.bl (isInt d)) S
  | _ => False⟩
theorem h_is_integer (T : Tab) : Meets sp_is_integer N_is_integer (t_is_integer T) := by
  intro ds S E Q hl h
  match ds, hl, h with
  | [d], _, ⟨h1, h2⟩ =>
    unfold t_is_integer N_is_integer
    cases d <;> first
      | (cases h1; done)
      | (((try simp only [SD.startD, List.length_cons, List.length_nil, List.map_cons, List.map_nil, List.replicate_succ, List.replicate_zero, List.cons_append, List.nil_append, Nat.reduceAdd, Nat.reduceSub, Nat.zero_add]); simp only [↓SD.ev_nil, ↓SD.ev_seq, ↓SD.ev_next, ↓SD.ev_break, ↓SD.ev_cont, ↓SD.ev_expr, ↓SD.ev_ret, ↓SD.ev_retN, ↓SD.ev_asg, ↓SD.ev_aug, ↓SD.ev_if, ↓SD.ev_for, ↓SD.ev_raise, ↓SD.ev_try, ↓SD.ev_var, ↓SD.ev_c, ↓SD.ev_glob, ↓SD.ev_tup, ↓SD.ev_lst, ↓SD.ev_bin, ↓SD.ev_un, ↓SD.ev_b1, ↓SD.ev_tE, ↓SD.ev_tNot, ↓SD.ev_tAnd, ↓SD.ev_tOr, ↓SD.ev_tYes, ↓SD.ev_not, ↓SD.ev_and, ↓SD.ev_or, ↓SD.ev_ifE, ↓SD.ev_cmp, ↓SD.ev_chain, ↓SD.ev_ix, ↓SD.ev_slice, ↓SD.ev_part1, ↓SD.ev_part0, ↓SD.ev_call, ↓SD.ev_callV, ↓SD.ev_app, ↓SD.ev_gVar, ↓SD.ev_gTup, ↓SD.ev_gIx, ↓SD.ev_iE, ↓SD.ev_iRange1, ↓SD.ev_iRange2, ↓SD.ev_iZip, ↓SD.ev_comp, ↓SD.ev_tupC, ↓SD.ev_allC, ↓SD.ev_anyC, ↓SD.ev_cComp, ↓SD.eList, ↓SD.gSeq, ↓SD.look_zero, ↓SD.look_succ, ↓SD.isa_non, ↓SD.isa_bl, ↓SD.isa_int, ↓SD.isa_str, ↓SD.isa_tup, ↓SD.isa_lref, ↓SD.ite_tt, ↓SD.ite_ff, SD.add_1, SD.add_2, SD.add_3, SD.add_4, SD.sub_1, SD.sub_2, SD.mul_1, SD.mul_2, SD.fdiv_1, SD.mod_1, SD.pow_1, SD.neg_1, SD.tr_non, SD.tr_bl, SD.tr_int, SD.tr_str, SD.tr_tup, SD.tr_lref, SD.lt_1, SD.le_1, SD.is_1, SD.is_2, SD.is_3, SD.is_4, SD.is_5, SD.is_6, SD.is_7, SD.cmp_eq, SD.cmp_ne, SD.cmp_lt, SD.cmp_le, SD.cmp_gt, SD.cmp_ge, SD.cmp_is, SD.cmp_isnot, SD.cmp_in, SD.cmp_notin, SD.eqk_int, SD.eqk_bl, SD.ix_tup, SD.ix_lref, SD.len_tup, SD.len_lref, SD.len_str, SD.abs_int, SD.int_int, SD.int_bl, SD.tuple_tup, SD.tuple_lref, SD.list_tup, SD.list_lref, SD.witer_tup, SD.witer_lref, SD.wzip_tup, SD.wipe_nil, SD.wipe_cons, SD.tru_nil, SD.tru_bl, SD.dE, SD.pairs, SD.allD, SD.anyD, SD.atI_0, SD.atI_1, SD.atI_2, SD.atI_3, SD.isa_NoneType_int, SD.isa_NoneType_bool, SD.isa_NoneType_str, SD.isa_NoneType_tuple, SD.isa_NoneType_list, SD.isa_bool_int, SD.isa_bool_bool, SD.isa_bool_str, SD.isa_bool_tuple, SD.isa_bool_list, SD.isa_int_int, SD.isa_int_bool, SD.isa_int_str, SD.isa_int_tuple, SD.isa_int_list, SD.isa_str_int, SD.isa_str_bool, SD.isa_str_str, SD.isa_str_tuple, SD.isa_str_list, SD.isa_tuple_int, SD.isa_tuple_bool, SD.isa_tuple_str, SD.isa_tuple_tuple, SD.isa_tuple_list, SD.isa_list_int, SD.isa_list_bool, SD.isa_list_str, SD.isa_list_tuple, SD.isa_list_list, List.length_cons, List.length_nil, List.map_cons, List.map_nil, List.set_cons_zero, List.set_cons_succ, List.replicate_succ, List.replicate_zero, List.cons_append, List.nil_append, List.zipWith_cons_cons, List.zipWith_nil_left, Nat.add_sub_cancel, Nat.reduceAdd, Nat.reduceSub, Nat.zero_add, Nat.sub_self, and_true, true_and, reduceCtorEq, if_true, if_false, ite_true, ite_false, Bool.false_eq_true, Bool.not_true, Bool.not_false, decide_eq_true_eq, SD.forLoop, SD.compLoop]); exact trQ_self rfl h2)
theorem ok2 {P : D → D → Prop} : ∀ {ds : List D}, ds.length = 2 → (∀ a b, ds = [a, b] → P a b) → ∃ a b, ds = [a, b] ∧ P a b
  | [a, b], _, h => ⟨a, b, rfl, h a b rfl⟩
def sp_in_range : FnD := ⟨3, fun ds S _ Q => match ds with
  | [.int n, .int a, .int b] => Q (.bl (decide (a ≤ n) && decide (n ≤ b))) S
  | [d, .int _, .int _] => (tyD d).isSome = true ∧ isInt d = false ∧ Q (.bl false) S
  | _ => False⟩
theorem h_in_range (T : Tab) (h1 : T.sp "is_integer" = some sp_is_integer) : Meets sp_in_range N_in_range (t_in_range T) := by
  intro ds S E Q hl h
  unfold sp_in_range at h
  unfold t_in_range N_in_range
  dsimp only at h
  split at h
  · rename_i n a b
    ((try simp only [SD.startD, List.length_cons, List.length_nil, List.map_cons, List.map_nil, List.replicate_succ, List.replicate_zero, List.cons_append, List.nil_append, Nat.reduceAdd, Nat.reduceSub, Nat.zero_add]); simp only [↓SD.ev_nil, ↓SD.ev_seq, ↓SD.ev_next, ↓SD.ev_break, ↓SD.ev_cont, ↓SD.ev_expr, ↓SD.ev_ret, ↓SD.ev_retN, ↓SD.ev_asg, ↓SD.ev_aug, ↓SD.ev_if, ↓SD.ev_for, ↓SD.ev_raise, ↓SD.ev_try, ↓SD.ev_var, ↓SD.ev_c, ↓SD.ev_glob, ↓SD.ev_tup, ↓SD.ev_lst, ↓SD.ev_bin, ↓SD.ev_un, ↓SD.ev_b1, ↓SD.ev_tE, ↓SD.ev_tNot, ↓SD.ev_tAnd, ↓SD.ev_tOr, ↓SD.ev_tYes, ↓SD.ev_not, ↓SD.ev_and, ↓SD.ev_or, ↓SD.ev_ifE, ↓SD.ev_cmp, ↓SD.ev_chain, ↓SD.ev_ix, ↓SD.ev_slice, ↓SD.ev_part1, ↓SD.ev_part0, ↓SD.ev_call, ↓SD.ev_callV, ↓SD.ev_app, ↓SD.ev_gVar, ↓SD.ev_gTup, ↓SD.ev_gIx, ↓SD.ev_iE, ↓SD.ev_iRange1, ↓SD.ev_iRange2, ↓SD.ev_iZip, ↓SD.ev_comp, ↓SD.ev_tupC, ↓SD.ev_allC, ↓SD.ev_anyC, ↓SD.ev_cComp, ↓SD.eList, ↓SD.gSeq, ↓SD.look_zero, ↓SD.look_succ, ↓SD.isa_non, ↓SD.isa_bl, ↓SD.isa_int, ↓SD.isa_str, ↓SD.isa_tup, ↓SD.isa_lref, ↓SD.ite_tt, ↓SD.ite_ff, SD.add_1, SD.add_2, SD.add_3, SD.add_4, SD.sub_1, SD.sub_2, SD.mul_1, SD.mul_2, SD.fdiv_1, SD.mod_1, SD.pow_1, SD.neg_1, SD.tr_non, SD.tr_bl, SD.tr_int, SD.tr_str, SD.tr_tup, SD.tr_lref, SD.lt_1, SD.le_1, SD.is_1, SD.is_2, SD.is_3, SD.is_4, SD.is_5, SD.is_6, SD.is_7, SD.cmp_eq, SD.cmp_ne, SD.cmp_lt, SD.cmp_le, SD.cmp_gt, SD.cmp_ge, SD.cmp_is, SD.cmp_isnot, SD.cmp_in, SD.cmp_notin, SD.eqk_int, SD.eqk_bl, SD.ix_tup, SD.ix_lref, SD.len_tup, SD.len_lref, SD.len_str, SD.abs_int, SD.int_int, SD.int_bl, SD.tuple_tup, SD.tuple_lref, SD.list_tup, SD.list_lref, SD.witer_tup, SD.witer_lref, SD.wzip_tup, SD.wipe_nil, SD.wipe_cons, SD.tru_nil, SD.tru_bl, SD.dE, SD.pairs, SD.allD, SD.anyD, SD.atI_0, SD.atI_1, SD.atI_2, SD.atI_3, SD.isa_NoneType_int, SD.isa_NoneType_bool, SD.isa_NoneType_str, SD.isa_NoneType_tuple, SD.isa_NoneType_list, SD.isa_bool_int, SD.isa_bool_bool, SD.isa_bool_str, SD.isa_bool_tuple, SD.isa_bool_list, SD.isa_int_int, SD.isa_int_bool, SD.isa_int_str, SD.isa_int_tuple, SD.isa_int_list, SD.isa_str_int, SD.isa_str_bool, SD.isa_str_str, SD.isa_str_tuple, SD.isa_str_list, SD.isa_tuple_int, SD.isa_tuple_bool, SD.isa_tuple_str, SD.isa_tuple_tuple, SD.isa_tuple_list, SD.isa_list_int, SD.isa_list_bool, SD.isa_list_str, SD.isa_list_tuple, SD.isa_list_list, List.length_cons, List.length_nil, List.map_cons, List.map_nil, List.set_cons_zero, List.set_cons_succ, List.replicate_succ, List.replicate_zero, List.cons_append, List.nil_append, List.zipWith_cons_cons, List.zipWith_nil_left, Nat.add_sub_cancel, Nat.reduceAdd, Nat.reduceSub, Nat.zero_add, Nat.sub_self, and_true, true_and, reduceCtorEq, if_true, if_false, ite_true, ite_false, Bool.false_eq_true, Bool.not_true, Bool.not_false, decide_eq_true_eq, SD.forLoop, SD.compLoop, h1, sp_is_integer])
    simp only [tyD, Option.isSome_some, isInt, true_and, if_true]
    by_cases c : a ≤ n
    · simp only [c, decide_true, if_true]
      exact trQ_self rfl (by simpa [c] using h)
    · simp only [c, decide_false, Bool.false_eq_true, if_false]
      exact trQ_self rfl (by simpa [c] using h)
  · rename_i d _ _ _
    obtain ⟨h2, h3, h4⟩ := h
    ((try simp only [SD.startD, List.length_cons, List.length_nil, List.map_cons, List.map_nil, List.replicate_succ, List.replicate_zero, List.cons_append, List.nil_append, Nat.reduceAdd, Nat.reduceSub, Nat.zero_add]); simp only [↓SD.ev_nil, ↓SD.ev_seq, ↓SD.ev_next, ↓SD.ev_break, ↓SD.ev_cont, ↓SD.ev_expr, ↓SD.ev_ret, ↓SD.ev_retN, ↓SD.ev_asg, ↓SD.ev_aug, ↓SD.ev_if, ↓SD.ev_for, ↓SD.ev_raise, ↓SD.ev_try, ↓SD.ev_var, ↓SD.ev_c, ↓SD.ev_glob, ↓SD.ev_tup, ↓SD.ev_lst, ↓SD.ev_bin, ↓SD.ev_un, ↓SD.ev_b1, ↓SD.ev_tE, ↓SD.ev_tNot, ↓SD.ev_tAnd, ↓SD.ev_tOr, ↓SD.ev_tYes, ↓SD.ev_not, ↓SD.ev_and, ↓SD.ev_or, ↓SD.ev_ifE, ↓SD.ev_cmp, ↓SD.ev_chain, ↓SD.ev_ix, ↓SD.ev_slice, ↓SD.ev_part1, ↓SD.ev_part0, ↓SD.ev_call, ↓SD.ev_callV, ↓SD.ev_app, ↓SD.ev_gVar, ↓SD.ev_gTup, ↓SD.ev_gIx, ↓SD.ev_iE, ↓SD.ev_iRange1, ↓SD.ev_iRange2, ↓SD.ev_iZip, ↓SD.ev_comp, ↓SD.ev_tupC, ↓SD.ev_allC, ↓SD.ev_anyC, ↓SD.ev_cComp, ↓SD.eList, ↓SD.gSeq, ↓SD.look_zero, ↓SD.look_succ, ↓SD.isa_non, ↓SD.isa_bl, ↓SD.isa_int, ↓SD.isa_str, ↓SD.isa_tup, ↓SD.isa_lref, ↓SD.ite_tt, ↓SD.ite_ff, SD.add_1, SD.add_2, SD.add_3, SD.add_4, SD.sub_1, SD.sub_2, SD.mul_1, SD.mul_2, SD.fdiv_1, SD.mod_1, SD.pow_1, SD.neg_1, SD.tr_non, SD.tr_bl, SD.tr_int, SD.tr_str, SD.tr_tup, SD.tr_lref, SD.lt_1, SD.le_1, SD.is_1, SD.is_2, SD.is_3, SD.is_4, SD.is_5, SD.is_6, SD.is_7, SD.cmp_eq, SD.cmp_ne, SD.cmp_lt, SD.cmp_le, SD.cmp_gt, SD.cmp_ge, SD.cmp_is, SD.cmp_isnot, SD.cmp_in, SD.cmp_notin, SD.eqk_int, SD.eqk_bl, SD.ix_tup, SD.ix_lref, SD.len_tup, SD.len_lref, SD.len_str, SD.abs_int, SD.int_int, SD.int_bl, SD.tuple_tup, SD.tuple_lref, SD.list_tup, SD.list_lref, SD.witer_tup, SD.witer_lref, SD.wzip_tup, SD.wipe_nil, SD.wipe_cons, SD.tru_nil, SD.tru_bl, SD.dE, SD.pairs, SD.allD, SD.anyD, SD.atI_0, SD.atI_1, SD.atI_2, SD.atI_3, SD.isa_NoneType_int, SD.isa_NoneType_bool, SD.isa_NoneType_str, SD.isa_NoneType_tuple, SD.isa_NoneType_list, SD.isa_bool_int, SD.isa_bool_bool, SD.isa_bool_str, SD.isa_bool_tuple, SD.isa_bool_list, SD.isa_int_int, SD.isa_int_bool, SD.isa_int_str, SD.isa_int_tuple, SD.isa_int_list, SD.isa_str_int, SD.isa_str_bool, SD.isa_str_str, SD.isa_str_tuple, SD.isa_str_list, SD.isa_tuple_int, SD.isa_tuple_bool, SD.isa_tuple_str, SD.isa_tuple_tuple, SD.isa_tuple_list, SD.isa_list_int, SD.isa_list_bool, SD.isa_list_str, SD.isa_list_tuple, SD.isa_list_list, List.length_cons, List.length_nil, List.map_cons, List.map_nil, List.set_cons_zero, List.set_cons_succ, List.replicate_succ, List.replicate_zero, List.cons_append, List.nil_append, List.zipWith_cons_cons, List.zipWith_nil_left, Nat.add_sub_cancel, Nat.reduceAdd, Nat.reduceSub, Nat.zero_add, Nat.sub_self, and_true, true_and, reduceCtorEq, if_true, if_false, ite_true, ite_false, Bool.false_eq_true, Bool.not_true, Bool.not_false, decide_eq_true_eq, SD.forLoop, SD.compLoop, h1, sp_is_integer, h2, h3])
    exact trQ_self rfl h4
  · exact h.elim
def sp_common : FnD := ⟨2, fun ds S _ Q => match ds with
  | [.int a, .int b] => Q (.int (Int.gcd a b)) S
  | _ => False⟩
theorem common_loop (T : Tab) (D : DEnds) (S : Store) : ∀ (b a : Nat), D.nx [some (.int (Nat.gcd a b : Nat)), some (.int 0)] S →
    ∃ n, whileN (tE (eVar 1)) (sSeq [sAsg (eTup [eVar 1, eBin modD (eVar 0) (eVar 1)]) (gTup [gVar 0, gVar 1])]) D n [some (.int (a : Nat)), some (.int (b : Nat))] S := by
  intro b
  induction b using Nat.strongRecOn with
  | ind b ih =>
    intro a h
    by_cases hb : b = 0
    · subst hb
      refine ⟨1, ?_⟩
      rw [whileN_go]
      ((try simp only [SD.startD, List.length_cons, List.length_nil, List.map_cons, List.map_nil, List.replicate_succ, List.replicate_zero, List.cons_append, List.nil_append, Nat.reduceAdd, Nat.reduceSub, Nat.zero_add]); simp only [↓SD.ev_nil, ↓SD.ev_seq, ↓SD.ev_next, ↓SD.ev_break, ↓SD.ev_cont, ↓SD.ev_expr, ↓SD.ev_ret, ↓SD.ev_retN, ↓SD.ev_asg, ↓SD.ev_aug, ↓SD.ev_if, ↓SD.ev_for, ↓SD.ev_raise, ↓SD.ev_try, ↓SD.ev_var, ↓SD.ev_c, ↓SD.ev_glob, ↓SD.ev_tup, ↓SD.ev_lst, ↓SD.ev_bin, ↓SD.ev_un, ↓SD.ev_b1, ↓SD.ev_tE, ↓SD.ev_tNot, ↓SD.ev_tAnd, ↓SD.ev_tOr, ↓SD.ev_tYes, ↓SD.ev_not, ↓SD.ev_and, ↓SD.ev_or, ↓SD.ev_ifE, ↓SD.ev_cmp, ↓SD.ev_chain, ↓SD.ev_ix, ↓SD.ev_slice, ↓SD.ev_part1, ↓SD.ev_part0, ↓SD.ev_call, ↓SD.ev_callV, ↓SD.ev_app, ↓SD.ev_gVar, ↓SD.ev_gTup, ↓SD.ev_gIx, ↓SD.ev_iE, ↓SD.ev_iRange1, ↓SD.ev_iRange2, ↓SD.ev_iZip, ↓SD.ev_comp, ↓SD.ev_tupC, ↓SD.ev_allC, ↓SD.ev_anyC, ↓SD.ev_cComp, ↓SD.eList, ↓SD.gSeq, ↓SD.look_zero, ↓SD.look_succ, ↓SD.isa_non, ↓SD.isa_bl, ↓SD.isa_int, ↓SD.isa_str, ↓SD.isa_tup, ↓SD.isa_lref, ↓SD.ite_tt, ↓SD.ite_ff, SD.add_1, SD.add_2, SD.add_3, SD.add_4, SD.sub_1, SD.sub_2, SD.mul_1, SD.mul_2, SD.fdiv_1, SD.mod_1, SD.pow_1, SD.neg_1, SD.tr_non, SD.tr_bl, SD.tr_int, SD.tr_str, SD.tr_tup, SD.tr_lref, SD.lt_1, SD.le_1, SD.is_1, SD.is_2, SD.is_3, SD.is_4, SD.is_5, SD.is_6, SD.is_7, SD.cmp_eq, SD.cmp_ne, SD.cmp_lt, SD.cmp_le, SD.cmp_gt, SD.cmp_ge, SD.cmp_is, SD.cmp_isnot, SD.cmp_in, SD.cmp_notin, SD.eqk_int, SD.eqk_bl, SD.ix_tup, SD.ix_lref, SD.len_tup, SD.len_lref, SD.len_str, SD.abs_int, SD.int_int, SD.int_bl, SD.tuple_tup, SD.tuple_lref, SD.list_tup, SD.list_lref, SD.witer_tup, SD.witer_lref, SD.wzip_tup, SD.wipe_nil, SD.wipe_cons, SD.tru_nil, SD.tru_bl, SD.dE, SD.pairs, SD.allD, SD.anyD, SD.atI_0, SD.atI_1, SD.atI_2, SD.atI_3, SD.isa_NoneType_int, SD.isa_NoneType_bool, SD.isa_NoneType_str, SD.isa_NoneType_tuple, SD.isa_NoneType_list, SD.isa_bool_int, SD.isa_bool_bool, SD.isa_bool_str, SD.isa_bool_tuple, SD.isa_bool_list, SD.isa_int_int, SD.isa_int_bool, SD.isa_int_str, SD.isa_int_tuple, SD.isa_int_list, SD.isa_str_int, SD.isa_str_bool, SD.isa_str_str, SD.isa_str_tuple, SD.isa_str_list, SD.isa_tuple_int, SD.isa_tuple_bool, SD.isa_tuple_str, SD.isa_tuple_tuple, SD.isa_tuple_list, SD.isa_list_int, SD.isa_list_bool, SD.isa_list_str, SD.isa_list_tuple, SD.isa_list_list, List.length_cons, List.length_nil, List.map_cons, List.map_nil, List.set_cons_zero, List.set_cons_succ, List.replicate_succ, List.replicate_zero, List.cons_append, List.nil_append, List.zipWith_cons_cons, List.zipWith_nil_left, Nat.add_sub_cancel, Nat.reduceAdd, Nat.reduceSub, Nat.zero_add, Nat.sub_self, and_true, true_and, reduceCtorEq, if_true, if_false, ite_true, ite_false, Bool.false_eq_true, Bool.not_true, Bool.not_false, decide_eq_true_eq, SD.forLoop, SD.compLoop])
      simpa using h
    · have hlt : a % b < b := Nat.mod_lt _ (Nat.pos_of_ne_zero hb)
      obtain ⟨n, hn⟩ := ih (a % b) hlt b (by rw [Nat.gcd_comm, ← Nat.gcd_rec]; rw [Nat.gcd_comm]; exact h)
      refine ⟨n + 1, ?_⟩
      rw [whileN_go]
      have e0 : ((b : Int) != 0) = true := by simp; omega
      ((try simp only [SD.startD, List.length_cons, List.length_nil, List.map_cons, List.map_nil, List.replicate_succ, List.replicate_zero, List.cons_append, List.nil_append, Nat.reduceAdd, Nat.reduceSub, Nat.zero_add]); simp only [↓SD.ev_nil, ↓SD.ev_seq, ↓SD.ev_next, ↓SD.ev_break, ↓SD.ev_cont, ↓SD.ev_expr, ↓SD.ev_ret, ↓SD.ev_retN, ↓SD.ev_asg, ↓SD.ev_aug, ↓SD.ev_if, ↓SD.ev_for, ↓SD.ev_raise, ↓SD.ev_try, ↓SD.ev_var, ↓SD.ev_c, ↓SD.ev_glob, ↓SD.ev_tup, ↓SD.ev_lst, ↓SD.ev_bin, ↓SD.ev_un, ↓SD.ev_b1, ↓SD.ev_tE, ↓SD.ev_tNot, ↓SD.ev_tAnd, ↓SD.ev_tOr, ↓SD.ev_tYes, ↓SD.ev_not, ↓SD.ev_and, ↓SD.ev_or, ↓SD.ev_ifE, ↓SD.ev_cmp, ↓SD.ev_chain, ↓SD.ev_ix, ↓SD.ev_slice, ↓SD.ev_part1, ↓SD.ev_part0, ↓SD.ev_call, ↓SD.ev_callV, ↓SD.ev_app, ↓SD.ev_gVar, ↓SD.ev_gTup, ↓SD.ev_gIx, ↓SD.ev_iE, ↓SD.ev_iRange1, ↓SD.ev_iRange2, ↓SD.ev_iZip, ↓SD.ev_comp, ↓SD.ev_tupC, ↓SD.ev_allC, ↓SD.ev_anyC, ↓SD.ev_cComp, ↓SD.eList, ↓SD.gSeq, ↓SD.look_zero, ↓SD.look_succ, ↓SD.isa_non, ↓SD.isa_bl, ↓SD.isa_int, ↓SD.isa_str, ↓SD.isa_tup, ↓SD.isa_lref, ↓SD.ite_tt, ↓SD.ite_ff, SD.add_1, SD.add_2, SD.add_3, SD.add_4, SD.sub_1, SD.sub_2, SD.mul_1, SD.mul_2, SD.fdiv_1, SD.mod_1, SD.pow_1, SD.neg_1, SD.tr_non, SD.tr_bl, SD.tr_int, SD.tr_str, SD.tr_tup, SD.tr_lref, SD.lt_1, SD.le_1, SD.is_1, SD.is_2, SD.is_3, SD.is_4, SD.is_5, SD.is_6, SD.is_7, SD.cmp_eq, SD.cmp_ne, SD.cmp_lt, SD.cmp_le, SD.cmp_gt, SD.cmp_ge, SD.cmp_is, SD.cmp_isnot, SD.cmp_in, SD.cmp_notin, SD.eqk_int, SD.eqk_bl, SD.ix_tup, SD.ix_lref, SD.len_tup, SD.len_lref, SD.len_str, SD.abs_int, SD.int_int, SD.int_bl, SD.tuple_tup, SD.tuple_lref, SD.list_tup, SD.list_lref, SD.witer_tup, SD.witer_lref, SD.wzip_tup, SD.wipe_nil, SD.wipe_cons, SD.tru_nil, SD.tru_bl, SD.dE, SD.pairs, SD.allD, SD.anyD, SD.atI_0, SD.atI_1, SD.atI_2, SD.atI_3, SD.isa_NoneType_int, SD.isa_NoneType_bool, SD.isa_NoneType_str, SD.isa_NoneType_tuple, SD.isa_NoneType_list, SD.isa_bool_int, SD.isa_bool_bool, SD.isa_bool_str, SD.isa_bool_tuple, SD.isa_bool_list, SD.isa_int_int, SD.isa_int_bool, SD.isa_int_str, SD.isa_int_tuple, SD.isa_int_list, SD.isa_str_int, SD.isa_str_bool, SD.isa_str_str, SD.isa_str_tuple, SD.isa_str_list, SD.isa_tuple_int, SD.isa_tuple_bool, SD.isa_tuple_str, SD.isa_tuple_tuple, SD.isa_tuple_list, SD.isa_list_int, SD.isa_list_bool, SD.isa_list_str, SD.isa_list_tuple, SD.isa_list_list, List.length_cons, List.length_nil, List.map_cons, List.map_nil, List.set_cons_zero, List.set_cons_succ, List.replicate_succ, List.replicate_zero, List.cons_append, List.nil_append, List.zipWith_cons_cons, List.zipWith_nil_left, Nat.add_sub_cancel, Nat.reduceAdd, Nat.reduceSub, Nat.zero_add, Nat.sub_self, and_true, true_and, reduceCtorEq, if_true, if_false, ite_true, ite_false, Bool.false_eq_true, Bool.not_true, Bool.not_false, decide_eq_true_eq, SD.forLoop, SD.compLoop, e0])
      refine ⟨by omega, ?_⟩
      have e : Int.fmod (a : Int) (b : Int) = ((a % b : Nat) : Int) := by
        rw [Int.fmod_eq_emod_of_nonneg _ (by omega)]
        rfl
      rw [e]
      exact hn
theorem abs_nat (a : Int) : (if a < 0 then -a else a) = (a.natAbs : Int) := by split <;> omega
theorem h_common (T : Tab) : Meets sp_common N_common (t_common T) := by
  intro ds S E Q hl h
  unfold sp_common at h
  unfold t_common N_common
  dsimp only at h
  split at h
  · rename_i a b
    ((try simp only [SD.startD, List.length_cons, List.length_nil, List.map_cons, List.map_nil, List.replicate_succ, List.replicate_zero, List.cons_append, List.nil_append, Nat.reduceAdd, Nat.reduceSub, Nat.zero_add]); simp only [↓SD.ev_nil, ↓SD.ev_seq, ↓SD.ev_next, ↓SD.ev_break, ↓SD.ev_cont, ↓SD.ev_expr, ↓SD.ev_ret, ↓SD.ev_retN, ↓SD.ev_asg, ↓SD.ev_aug, ↓SD.ev_if, ↓SD.ev_for, ↓SD.ev_raise, ↓SD.ev_try, ↓SD.ev_var, ↓SD.ev_c, ↓SD.ev_glob, ↓SD.ev_tup, ↓SD.ev_lst, ↓SD.ev_bin, ↓SD.ev_un, ↓SD.ev_b1, ↓SD.ev_tE, ↓SD.ev_tNot, ↓SD.ev_tAnd, ↓SD.ev_tOr, ↓SD.ev_tYes, ↓SD.ev_not, ↓SD.ev_and, ↓SD.ev_or, ↓SD.ev_ifE, ↓SD.ev_cmp, ↓SD.ev_chain, ↓SD.ev_ix, ↓SD.ev_slice, ↓SD.ev_part1, ↓SD.ev_part0, ↓SD.ev_call, ↓SD.ev_callV, ↓SD.ev_app, ↓SD.ev_gVar, ↓SD.ev_gTup, ↓SD.ev_gIx, ↓SD.ev_iE, ↓SD.ev_iRange1, ↓SD.ev_iRange2, ↓SD.ev_iZip, ↓SD.ev_comp, ↓SD.ev_tupC, ↓SD.ev_allC, ↓SD.ev_anyC, ↓SD.ev_cComp, ↓SD.eList, ↓SD.gSeq, ↓SD.look_zero, ↓SD.look_succ, ↓SD.isa_non, ↓SD.isa_bl, ↓SD.isa_int, ↓SD.isa_str, ↓SD.isa_tup, ↓SD.isa_lref, ↓SD.ite_tt, ↓SD.ite_ff, SD.add_1, SD.add_2, SD.add_3, SD.add_4, SD.sub_1, SD.sub_2, SD.mul_1, SD.mul_2, SD.fdiv_1, SD.mod_1, SD.pow_1, SD.neg_1, SD.tr_non, SD.tr_bl, SD.tr_int, SD.tr_str, SD.tr_tup, SD.tr_lref, SD.lt_1, SD.le_1, SD.is_1, SD.is_2, SD.is_3, SD.is_4, SD.is_5, SD.is_6, SD.is_7, SD.cmp_eq, SD.cmp_ne, SD.cmp_lt, SD.cmp_le, SD.cmp_gt, SD.cmp_ge, SD.cmp_is, SD.cmp_isnot, SD.cmp_in, SD.cmp_notin, SD.eqk_int, SD.eqk_bl, SD.ix_tup, SD.ix_lref, SD.len_tup, SD.len_lref, SD.len_str, SD.abs_int, SD.int_int, SD.int_bl, SD.tuple_tup, SD.tuple_lref, SD.list_tup, SD.list_lref, SD.witer_tup, SD.witer_lref, SD.wzip_tup, SD.wipe_nil, SD.wipe_cons, SD.tru_nil, SD.tru_bl, SD.dE, SD.pairs, SD.allD, SD.anyD, SD.atI_0, SD.atI_1, SD.atI_2, SD.atI_3, SD.isa_NoneType_int, SD.isa_NoneType_bool, SD.isa_NoneType_str, SD.isa_NoneType_tuple, SD.isa_NoneType_list, SD.isa_bool_int, SD.isa_bool_bool, SD.isa_bool_str, SD.isa_bool_tuple, SD.isa_bool_list, SD.isa_int_int, SD.isa_int_bool, SD.isa_int_str, SD.isa_int_tuple, SD.isa_int_list, SD.isa_str_int, SD.isa_str_bool, SD.isa_str_str, SD.isa_str_tuple, SD.isa_str_list, SD.isa_tuple_int, SD.isa_tuple_bool, SD.isa_tuple_str, SD.isa_tuple_tuple, SD.isa_tuple_list, SD.isa_list_int, SD.isa_list_bool, SD.isa_list_str, SD.isa_list_tuple, SD.isa_list_list, List.length_cons, List.length_nil, List.map_cons, List.map_nil, List.set_cons_zero, List.set_cons_succ, List.replicate_succ, List.replicate_zero, List.cons_append, List.nil_append, List.zipWith_cons_cons, List.zipWith_nil_left, Nat.add_sub_cancel, Nat.reduceAdd, Nat.reduceSub, Nat.zero_add, Nat.sub_self, and_true, true_and, reduceCtorEq, if_true, if_false, ite_true, ite_false, Bool.false_eq_true, Bool.not_true, Bool.not_false, decide_eq_true_eq, SD.forLoop, SD.compLoop, abs_nat, sWhile])
    refine common_loop T _ S b.natAbs a.natAbs ?_
    ((try simp only [SD.startD, List.length_cons, List.length_nil, List.map_cons, List.map_nil, List.replicate_succ, List.replicate_zero, List.cons_append, List.nil_append, Nat.reduceAdd, Nat.reduceSub, Nat.zero_add]); simp only [↓SD.ev_nil, ↓SD.ev_seq, ↓SD.ev_next, ↓SD.ev_break, ↓SD.ev_cont, ↓SD.ev_expr, ↓SD.ev_ret, ↓SD.ev_retN, ↓SD.ev_asg, ↓SD.ev_aug, ↓SD.ev_if, ↓SD.ev_for, ↓SD.ev_raise, ↓SD.ev_try, ↓SD.ev_var, ↓SD.ev_c, ↓SD.ev_glob, ↓SD.ev_tup, ↓SD.ev_lst, ↓SD.ev_bin, ↓SD.ev_un, ↓SD.ev_b1, ↓SD.ev_tE, ↓SD.ev_tNot, ↓SD.ev_tAnd, ↓SD.ev_tOr, ↓SD.ev_tYes, ↓SD.ev_not, ↓SD.ev_and, ↓SD.ev_or, ↓SD.ev_ifE, ↓SD.ev_cmp, ↓SD.ev_chain, ↓SD.ev_ix, ↓SD.ev_slice, ↓SD.ev_part1, ↓SD.ev_part0, ↓SD.ev_call, ↓SD.ev_callV, ↓SD.ev_app, ↓SD.ev_gVar, ↓SD.ev_gTup, ↓SD.ev_gIx, ↓SD.ev_iE, ↓SD.ev_iRange1, ↓SD.ev_iRange2, ↓SD.ev_iZip, ↓SD.ev_comp, ↓SD.ev_tupC, ↓SD.ev_allC, ↓SD.ev_anyC, ↓SD.ev_cComp, ↓SD.eList, ↓SD.gSeq, ↓SD.look_zero, ↓SD.look_succ, ↓SD.isa_non, ↓SD.isa_bl, ↓SD.isa_int, ↓SD.isa_str, ↓SD.isa_tup, ↓SD.isa_lref, ↓SD.ite_tt, ↓SD.ite_ff, SD.add_1, SD.add_2, SD.add_3, SD.add_4, SD.sub_1, SD.sub_2, SD.mul_1, SD.mul_2, SD.fdiv_1, SD.mod_1, SD.pow_1, SD.neg_1, SD.tr_non, SD.tr_bl, SD.tr_int, SD.tr_str, SD.tr_tup, SD.tr_lref, SD.lt_1, SD.le_1, SD.is_1, SD.is_2, SD.is_3, SD.is_4, SD.is_5, SD.is_6, SD.is_7, SD.cmp_eq, SD.cmp_ne, SD.cmp_lt, SD.cmp_le, SD.cmp_gt, SD.cmp_ge, SD.cmp_is, SD.cmp_isnot, SD.cmp_in, SD.cmp_notin, SD.eqk_int, SD.eqk_bl, SD.ix_tup, SD.ix_lref, SD.len_tup, SD.len_lref, SD.len_str, SD.abs_int, SD.int_int, SD.int_bl, SD.tuple_tup, SD.tuple_lref, SD.list_tup, SD.list_lref, SD.witer_tup, SD.witer_lref, SD.wzip_tup, SD.wipe_nil, SD.wipe_cons, SD.tru_nil, SD.tru_bl, SD.dE, SD.pairs, SD.allD, SD.anyD, SD.atI_0, SD.atI_1, SD.atI_2, SD.atI_3, SD.isa_NoneType_int, SD.isa_NoneType_bool, SD.isa_NoneType_str, SD.isa_NoneType_tuple, SD.isa_NoneType_list, SD.isa_bool_int, SD.isa_bool_bool, SD.isa_bool_str, SD.isa_bool_tuple, SD.isa_bool_list, SD.isa_int_int, SD.isa_int_bool, SD.isa_int_str, SD.isa_int_tuple, SD.isa_int_list, SD.isa_str_int, SD.isa_str_bool, SD.isa_str_str, SD.isa_str_tuple, SD.isa_str_list, SD.isa_tuple_int, SD.isa_tuple_bool, SD.isa_tuple_str, SD.isa_tuple_tuple, SD.isa_tuple_list, SD.isa_list_int, SD.isa_list_bool, SD.isa_list_str, SD.isa_list_tuple, SD.isa_list_list, List.length_cons, List.length_nil, List.map_cons, List.map_nil, List.set_cons_zero, List.set_cons_succ, List.replicate_succ, List.replicate_zero, List.cons_append, List.nil_append, List.zipWith_cons_cons, List.zipWith_nil_left, Nat.add_sub_cancel, Nat.reduceAdd, Nat.reduceSub, Nat.zero_add, Nat.sub_self, and_true, true_and, reduceCtorEq, if_true, if_false, ite_true, ite_false, Bool.false_eq_true, Bool.not_true, Bool.not_false, decide_eq_true_eq, SD.forLoop, SD.compLoop])
    exact trQ_self rfl h
  · exact h.elim
def sp_made : FnD := ⟨2, fun ds S _ Q => match ds with
  | [.int n, .int d] => (d ≠ 0 ∧ d.natAbs < 2 ^ 8000) ∧ Q (fr (Rat.divInt n d)) S
  | _ => False⟩
theorem made_eq {n d : Int} (h : 0 < d) : D.tup [.int (n.fdiv (Int.gcd n d)), .int (d.fdiv (Int.gcd n d))] = fr (Rat.divInt n d) := by
  unfold fr
  have g0 : (0 : Int) < (Int.gcd n d : Int) := by
    have : 0 < Int.gcd n d := Int.gcd_pos_of_ne_zero_right _ (by omega)
    omega
  rw [Rat.num_divInt, Rat.den_divInt, if_neg (by omega), Int.sign_eq_one_of_pos h, Int.gcd_comm d n, Int.one_mul]
  rw [Int.fdiv_eq_ediv_of_nonneg _ (by omega), Int.fdiv_eq_ediv_of_nonneg _ (by omega)]
  have e : ((d.natAbs / Int.gcd n d : Nat) : Int) = d / (Int.gcd n d : Int) := by
    have : (d.natAbs : Int) = d := by omega
    rw [Int.natCast_ediv, this]
  rw [e]
theorem h_made (T : Tab) (h1 : T.sp "common" = some sp_common) : Meets sp_made N_made (t_made T) := by
  intro ds S E Q hl h
  unfold sp_made at h
  unfold t_made N_made
  dsimp only at h
  split at h
  · rename_i n d
    obtain ⟨⟨h2, h3⟩, h4⟩ := h
    have gl : ∀ m : Int, m ≠ 0 → m.natAbs < 2 ^ 8000 → ∀ k : Int, ((Int.gcd k m : Nat) : Int) ≠ 0 ∧ ((Int.gcd k m : Nat) : Int).natAbs.log2 < 9000 := fun m hm hs k => by
      have g0 : 0 < Int.gcd k m := Int.gcd_pos_of_ne_zero_right _ hm
      refine ⟨by omega, ?_⟩
      have gle : Int.gcd k m ≤ m.natAbs := Nat.le_of_dvd (by omega) (Nat.gcd_dvd_right _ _)
      have : ((Int.gcd k m : Nat) : Int).natAbs < 2 ^ 8000 := by
        rw [Int.natAbs_natCast]
        exact Nat.lt_of_le_of_lt gle hs
      exact Nat.lt_of_lt_of_le (log2_lt_of this (by decide)) (by decide)
    ((try simp only [SD.startD, List.length_cons, List.length_nil, List.map_cons, List.map_nil, List.replicate_succ, List.replicate_zero, List.cons_append, List.nil_append, Nat.reduceAdd, Nat.reduceSub, Nat.zero_add]); simp only [↓SD.ev_nil, ↓SD.ev_seq, ↓SD.ev_next, ↓SD.ev_break, ↓SD.ev_cont, ↓SD.ev_expr, ↓SD.ev_ret, ↓SD.ev_retN, ↓SD.ev_asg, ↓SD.ev_aug, ↓SD.ev_if, ↓SD.ev_for, ↓SD.ev_raise, ↓SD.ev_try, ↓SD.ev_var, ↓SD.ev_c, ↓SD.ev_glob, ↓SD.ev_tup, ↓SD.ev_lst, ↓SD.ev_bin, ↓SD.ev_un, ↓SD.ev_b1, ↓SD.ev_tE, ↓SD.ev_tNot, ↓SD.ev_tAnd, ↓SD.ev_tOr, ↓SD.ev_tYes, ↓SD.ev_not, ↓SD.ev_and, ↓SD.ev_or, ↓SD.ev_ifE, ↓SD.ev_cmp, ↓SD.ev_chain, ↓SD.ev_ix, ↓SD.ev_slice, ↓SD.ev_part1, ↓SD.ev_part0, ↓SD.ev_call, ↓SD.ev_callV, ↓SD.ev_app, ↓SD.ev_gVar, ↓SD.ev_gTup, ↓SD.ev_gIx, ↓SD.ev_iE, ↓SD.ev_iRange1, ↓SD.ev_iRange2, ↓SD.ev_iZip, ↓SD.ev_comp, ↓SD.ev_tupC, ↓SD.ev_allC, ↓SD.ev_anyC, ↓SD.ev_cComp, ↓SD.eList, ↓SD.gSeq, ↓SD.look_zero, ↓SD.look_succ, ↓SD.isa_non, ↓SD.isa_bl, ↓SD.isa_int, ↓SD.isa_str, ↓SD.isa_tup, ↓SD.isa_lref, ↓SD.ite_tt, ↓SD.ite_ff, SD.add_1, SD.add_2, SD.add_3, SD.add_4, SD.sub_1, SD.sub_2, SD.mul_1, SD.mul_2, SD.fdiv_1, SD.mod_1, SD.pow_1, SD.neg_1, SD.tr_non, SD.tr_bl, SD.tr_int, SD.tr_str, SD.tr_tup, SD.tr_lref, SD.lt_1, SD.le_1, SD.is_1, SD.is_2, SD.is_3, SD.is_4, SD.is_5, SD.is_6, SD.is_7, SD.cmp_eq, SD.cmp_ne, SD.cmp_lt, SD.cmp_le, SD.cmp_gt, SD.cmp_ge, SD.cmp_is, SD.cmp_isnot, SD.cmp_in, SD.cmp_notin, SD.eqk_int, SD.eqk_bl, SD.ix_tup, SD.ix_lref, SD.len_tup, SD.len_lref, SD.len_str, SD.abs_int, SD.int_int, SD.int_bl, SD.tuple_tup, SD.tuple_lref, SD.list_tup, SD.list_lref, SD.witer_tup, SD.witer_lref, SD.wzip_tup, SD.wipe_nil, SD.wipe_cons, SD.tru_nil, SD.tru_bl, SD.dE, SD.pairs, SD.allD, SD.anyD, SD.atI_0, SD.atI_1, SD.atI_2, SD.atI_3, SD.isa_NoneType_int, SD.isa_NoneType_bool, SD.isa_NoneType_str, SD.isa_NoneType_tuple, SD.isa_NoneType_list, SD.isa_bool_int, SD.isa_bool_bool, SD.isa_bool_str, SD.isa_bool_tuple, SD.isa_bool_list, SD.isa_int_int, SD.isa_int_bool, SD.isa_int_str, SD.isa_int_tuple, SD.isa_int_list, SD.isa_str_int, SD.isa_str_bool, SD.isa_str_str, SD.isa_str_tuple, SD.isa_str_list, SD.isa_tuple_int, SD.isa_tuple_bool, SD.isa_tuple_str, SD.isa_tuple_tuple, SD.isa_tuple_list, SD.isa_list_int, SD.isa_list_bool, SD.isa_list_str, SD.isa_list_tuple, SD.isa_list_list, List.length_cons, List.length_nil, List.map_cons, List.map_nil, List.set_cons_zero, List.set_cons_succ, List.replicate_succ, List.replicate_zero, List.cons_append, List.nil_append, List.zipWith_cons_cons, List.zipWith_nil_left, Nat.add_sub_cancel, Nat.reduceAdd, Nat.reduceSub, Nat.zero_add, Nat.sub_self, and_true, true_and, reduceCtorEq, if_true, if_false, ite_true, ite_false, Bool.false_eq_true, Bool.not_true, Bool.not_false, decide_eq_true_eq, SD.forLoop, SD.compLoop, h1, sp_common])
    by_cases hd : d < 0
    · simp only [hd, if_true]
      have hm : (0 - d) ≠ 0 := by omega
      have hs : (0 - d).natAbs < 2 ^ 8000 := by rw [show (0 - d).natAbs = d.natAbs by omega]; exact h3
      refine ⟨gl _ hm hs _, gl _ hm hs _, ?_⟩
      rw [made_eq (by omega)]
      have e : Rat.divInt (0 - n) (0 - d) = Rat.divInt n d := by
        rw [Int.zero_sub, Int.zero_sub]
        exact Rat.neg_divInt_neg ..
      rw [e]
      exact trQ_self rfl h4
    · simp only [hd, if_false]
      refine ⟨gl _ h2 h3 _, gl _ h2 h3 _, ?_⟩
      rw [made_eq (by omega)]
      exact trQ_self rfl h4
  · exact h.elim
end SP

-- SPg
set_option Elab.async false
set_option linter.all false
set_option maxRecDepth 100000
set_option maxHeartbeats 1000000
namespace SP
open PySem L2 SD SL
/-- what the tests of shapes may be asked: values, in tuples values -/
def tys : List D → Bool
  | [] => true
  | d :: ds => (tyD d).isSome && tys ds
def okT : D → Bool
  | .tup xs => tys xs && decide (xs.length ≤ 1000)
  | d => (tyD d).isSome
def isFrac : D → Bool
  | .tup [.int n, .int m] => decide (0 < m) && decide (Int.gcd n m = 1)
  | _ => false
theorem small1000' {n : Nat} (h : n ≤ 1000) : n ≤ sizeLine := line1000 h
def sp_is_fraction : FnD := ⟨1, fun ds S _ Q => match ds with
  | [d] => okT d = true ∧ Q (.bl (isFrac d)) S
  | _ => False⟩
theorem two_case {xs : List D} : (∃ a b, xs = [a, b]) ∨ xs.length ≠ 2 := by
  match xs with
  | [] => exact .inr (by simp)
  | [_] => exact .inr (by simp)
  | [a, b] => exact .inl ⟨a, b, rfl⟩
  | _ :: _ :: _ :: _ => exact .inr (by simp)
theorem isFrac_len {xs : List D} (h : xs.length ≠ 2) : isFrac (.tup xs) = false := by
  match xs with
  | [] => rfl
  | [_] => unfold isFrac; split <;> simp_all
  | [a, b] => exact absurd rfl h
  | _ :: _ :: _ :: _ => unfold isFrac; split <;> simp_all
theorem isFrac_no {a b : D} (h : (isInt a && isInt b) = false) : isFrac (.tup [a, b]) = false := by
  unfold isFrac
  split
  · rename_i n m e
    cases e
    cases h
  · rfl
theorem h_is_fraction (T : Tab) (h1 : T.sp "is_integer" = some sp_is_integer) (h2 : T.sp "common" = some sp_common) : Meets sp_is_fraction N_is_fraction (t_is_fraction T) := by
  intro ds S E Q hl h
  match ds, hl, h with
  | [d], _, ⟨h3, h4⟩ =>
    unfold t_is_fraction N_is_fraction
    cases d
    case tup xs hl0 =>
      rcases @two_case xs with ⟨a, b, rfl⟩ | hn
      · have h5 : (tyD a).isSome = true ∧ (tyD b).isSome = true := by
          have := h3
          simp only [okT, tys, Bool.and_eq_true] at this
          exact ⟨this.1.1, this.1.2.1⟩
        ((try simp only [SD.startD, List.length_cons, List.length_nil, List.map_cons, List.map_nil, List.replicate_succ, List.replicate_zero, List.cons_append, List.nil_append, Nat.reduceAdd, Nat.reduceSub, Nat.zero_add]); simp only [↓SD.ev_nil, ↓SD.ev_seq, ↓SD.ev_next, ↓SD.ev_break, ↓SD.ev_cont, ↓SD.ev_expr, ↓SD.ev_ret, ↓SD.ev_retN, ↓SD.ev_asg, ↓SD.ev_aug, ↓SD.ev_if, ↓SD.ev_for, ↓SD.ev_raise, ↓SD.ev_try, ↓SD.ev_var, ↓SD.ev_c, ↓SD.ev_glob, ↓SD.ev_tup, ↓SD.ev_lst, ↓SD.ev_bin, ↓SD.ev_un, ↓SD.ev_b1, ↓SD.ev_tE, ↓SD.ev_tNot, ↓SD.ev_tAnd, ↓SD.ev_tOr, ↓SD.ev_tYes, ↓SD.ev_not, ↓SD.ev_and, ↓SD.ev_or, ↓SD.ev_ifE, ↓SD.ev_cmp, ↓SD.ev_chain, ↓SD.ev_ix, ↓SD.ev_slice, ↓SD.ev_part1, ↓SD.ev_part0, ↓SD.ev_call, ↓SD.ev_callV, ↓SD.ev_app, ↓SD.ev_gVar, ↓SD.ev_gTup, ↓SD.ev_gIx, ↓SD.ev_iE, ↓SD.ev_iRange1, ↓SD.ev_iRange2, ↓SD.ev_iZip, ↓SD.ev_comp, ↓SD.ev_tupC, ↓SD.ev_allC, ↓SD.ev_anyC, ↓SD.ev_cComp, ↓SD.eList, ↓SD.gSeq, ↓SD.look_zero, ↓SD.look_succ, ↓SD.isa_non, ↓SD.isa_bl, ↓SD.isa_int, ↓SD.isa_str, ↓SD.isa_tup, ↓SD.isa_lref, ↓SD.ite_tt, ↓SD.ite_ff, SD.add_1, SD.add_2, SD.add_3, SD.add_4, SD.sub_1, SD.sub_2, SD.mul_1, SD.mul_2, SD.fdiv_1, SD.mod_1, SD.pow_1, SD.neg_1, SD.tr_non, SD.tr_bl, SD.tr_int, SD.tr_str, SD.tr_tup, SD.tr_lref, SD.lt_1, SD.le_1, SD.is_1, SD.is_2, SD.is_3, SD.is_4, SD.is_5, SD.is_6, SD.is_7, SD.cmp_eq, SD.cmp_ne, SD.cmp_lt, SD.cmp_le, SD.cmp_gt, SD.cmp_ge, SD.cmp_is, SD.cmp_isnot, SD.cmp_in, SD.cmp_notin, SD.eqk_int, SD.eqk_bl, SD.ix_tup, SD.ix_lref, SD.len_tup, SD.len_lref, SD.len_str, SD.abs_int, SD.int_int, SD.int_bl, SD.tuple_tup, SD.tuple_lref, SD.list_tup, SD.list_lref, SD.witer_tup, SD.witer_lref, SD.wzip_tup, SD.wipe_nil, SD.wipe_cons, SD.tru_nil, SD.tru_bl, SD.dE, SD.pairs, SD.allD, SD.anyD, SD.atI_0, SD.atI_1, SD.atI_2, SD.atI_3, SD.isa_NoneType_int, SD.isa_NoneType_bool, SD.isa_NoneType_str, SD.isa_NoneType_tuple, SD.isa_NoneType_list, SD.isa_bool_int, SD.isa_bool_bool, SD.isa_bool_str, SD.isa_bool_tuple, SD.isa_bool_list, SD.isa_int_int, SD.isa_int_bool, SD.isa_int_str, SD.isa_int_tuple, SD.isa_int_list, SD.isa_str_int, SD.isa_str_bool, SD.isa_str_str, SD.isa_str_tuple, SD.isa_str_list, SD.isa_tuple_int, SD.isa_tuple_bool, SD.isa_tuple_str, SD.isa_tuple_tuple, SD.isa_tuple_list, SD.isa_list_int, SD.isa_list_bool, SD.isa_list_str, SD.isa_list_tuple, SD.isa_list_list, List.length_cons, List.length_nil, List.map_cons, List.map_nil, List.set_cons_zero, List.set_cons_succ, List.replicate_succ, List.replicate_zero, List.cons_append, List.nil_append, List.zipWith_cons_cons, List.zipWith_nil_left, Nat.add_sub_cancel, Nat.reduceAdd, Nat.reduceSub, Nat.zero_add, Nat.sub_self, and_true, true_and, reduceCtorEq, if_true, if_false, ite_true, ite_false, Bool.false_eq_true, Bool.not_true, Bool.not_false, decide_eq_true_eq, SD.forLoop, SD.compLoop, h1, sp_is_integer, h5.1, h5.2, eqk_int])
        refine ⟨by decide, ?_⟩
        try simp only [show (decide (((2 : Nat) : Int) = 2)) = true by decide]
        try ((try simp only [SD.startD, List.length_cons, List.length_nil, List.map_cons, List.map_nil, List.replicate_succ, List.replicate_zero, List.cons_append, List.nil_append, Nat.reduceAdd, Nat.reduceSub, Nat.zero_add]); simp only [↓SD.ev_nil, ↓SD.ev_seq, ↓SD.ev_next, ↓SD.ev_break, ↓SD.ev_cont, ↓SD.ev_expr, ↓SD.ev_ret, ↓SD.ev_retN, ↓SD.ev_asg, ↓SD.ev_aug, ↓SD.ev_if, ↓SD.ev_for, ↓SD.ev_raise, ↓SD.ev_try, ↓SD.ev_var, ↓SD.ev_c, ↓SD.ev_glob, ↓SD.ev_tup, ↓SD.ev_lst, ↓SD.ev_bin, ↓SD.ev_un, ↓SD.ev_b1, ↓SD.ev_tE, ↓SD.ev_tNot, ↓SD.ev_tAnd, ↓SD.ev_tOr, ↓SD.ev_tYes, ↓SD.ev_not, ↓SD.ev_and, ↓SD.ev_or, ↓SD.ev_ifE, ↓SD.ev_cmp, ↓SD.ev_chain, ↓SD.ev_ix, ↓SD.ev_slice, ↓SD.ev_part1, ↓SD.ev_part0, ↓SD.ev_call, ↓SD.ev_callV, ↓SD.ev_app, ↓SD.ev_gVar, ↓SD.ev_gTup, ↓SD.ev_gIx, ↓SD.ev_iE, ↓SD.ev_iRange1, ↓SD.ev_iRange2, ↓SD.ev_iZip, ↓SD.ev_comp, ↓SD.ev_tupC, ↓SD.ev_allC, ↓SD.ev_anyC, ↓SD.ev_cComp, ↓SD.eList, ↓SD.gSeq, ↓SD.look_zero, ↓SD.look_succ, ↓SD.isa_non, ↓SD.isa_bl, ↓SD.isa_int, ↓SD.isa_str, ↓SD.isa_tup, ↓SD.isa_lref, ↓SD.ite_tt, ↓SD.ite_ff, SD.add_1, SD.add_2, SD.add_3, SD.add_4, SD.sub_1, SD.sub_2, SD.mul_1, SD.mul_2, SD.fdiv_1, SD.mod_1, SD.pow_1, SD.neg_1, SD.tr_non, SD.tr_bl, SD.tr_int, SD.tr_str, SD.tr_tup, SD.tr_lref, SD.lt_1, SD.le_1, SD.is_1, SD.is_2, SD.is_3, SD.is_4, SD.is_5, SD.is_6, SD.is_7, SD.cmp_eq, SD.cmp_ne, SD.cmp_lt, SD.cmp_le, SD.cmp_gt, SD.cmp_ge, SD.cmp_is, SD.cmp_isnot, SD.cmp_in, SD.cmp_notin, SD.eqk_int, SD.eqk_bl, SD.ix_tup, SD.ix_lref, SD.len_tup, SD.len_lref, SD.len_str, SD.abs_int, SD.int_int, SD.int_bl, SD.tuple_tup, SD.tuple_lref, SD.list_tup, SD.list_lref, SD.witer_tup, SD.witer_lref, SD.wzip_tup, SD.wipe_nil, SD.wipe_cons, SD.tru_nil, SD.tru_bl, SD.dE, SD.pairs, SD.allD, SD.anyD, SD.atI_0, SD.atI_1, SD.atI_2, SD.atI_3, SD.isa_NoneType_int, SD.isa_NoneType_bool, SD.isa_NoneType_str, SD.isa_NoneType_tuple, SD.isa_NoneType_list, SD.isa_bool_int, SD.isa_bool_bool, SD.isa_bool_str, SD.isa_bool_tuple, SD.isa_bool_list, SD.isa_int_int, SD.isa_int_bool, SD.isa_int_str, SD.isa_int_tuple, SD.isa_int_list, SD.isa_str_int, SD.isa_str_bool, SD.isa_str_str, SD.isa_str_tuple, SD.isa_str_list, SD.isa_tuple_int, SD.isa_tuple_bool, SD.isa_tuple_str, SD.isa_tuple_tuple, SD.isa_tuple_list, SD.isa_list_int, SD.isa_list_bool, SD.isa_list_str, SD.isa_list_tuple, SD.isa_list_list, List.length_cons, List.length_nil, List.map_cons, List.map_nil, List.set_cons_zero, List.set_cons_succ, List.replicate_succ, List.replicate_zero, List.cons_append, List.nil_append, List.zipWith_cons_cons, List.zipWith_nil_left, Nat.add_sub_cancel, Nat.reduceAdd, Nat.reduceSub, Nat.zero_add, Nat.sub_self, and_true, true_and, reduceCtorEq, if_true, if_false, ite_true, ite_false, Bool.false_eq_true, Bool.not_true, Bool.not_false, decide_eq_true_eq, SD.forLoop, SD.compLoop])
        cases hab : isInt a && isInt b with
        | false =>
          have e : (([isInt a, isInt b].all id)) = false := by simpa using hab
          simp only [e]
          ((try simp only [SD.startD, List.length_cons, List.length_nil, List.map_cons, List.map_nil, List.replicate_succ, List.replicate_zero, List.cons_append, List.nil_append, Nat.reduceAdd, Nat.reduceSub, Nat.zero_add]); simp only [↓SD.ev_nil, ↓SD.ev_seq, ↓SD.ev_next, ↓SD.ev_break, ↓SD.ev_cont, ↓SD.ev_expr, ↓SD.ev_ret, ↓SD.ev_retN, ↓SD.ev_asg, ↓SD.ev_aug, ↓SD.ev_if, ↓SD.ev_for, ↓SD.ev_raise, ↓SD.ev_try, ↓SD.ev_var, ↓SD.ev_c, ↓SD.ev_glob, ↓SD.ev_tup, ↓SD.ev_lst, ↓SD.ev_bin, ↓SD.ev_un, ↓SD.ev_b1, ↓SD.ev_tE, ↓SD.ev_tNot, ↓SD.ev_tAnd, ↓SD.ev_tOr, ↓SD.ev_tYes, ↓SD.ev_not, ↓SD.ev_and, ↓SD.ev_or, ↓SD.ev_ifE, ↓SD.ev_cmp, ↓SD.ev_chain, ↓SD.ev_ix, ↓SD.ev_slice, ↓SD.ev_part1, ↓SD.ev_part0, ↓SD.ev_call, ↓SD.ev_callV, ↓SD.ev_app, ↓SD.ev_gVar, ↓SD.ev_gTup, ↓SD.ev_gIx, ↓SD.ev_iE, ↓SD.ev_iRange1, ↓SD.ev_iRange2, ↓SD.ev_iZip, ↓SD.ev_comp, ↓SD.ev_tupC, ↓SD.ev_allC, ↓SD.ev_anyC, ↓SD.ev_cComp, ↓SD.eList, ↓SD.gSeq, ↓SD.look_zero, ↓SD.look_succ, ↓SD.isa_non, ↓SD.isa_bl, ↓SD.isa_int, ↓SD.isa_str, ↓SD.isa_tup, ↓SD.isa_lref, ↓SD.ite_tt, ↓SD.ite_ff, SD.add_1, SD.add_2, SD.add_3, SD.add_4, SD.sub_1, SD.sub_2, SD.mul_1, SD.mul_2, SD.fdiv_1, SD.mod_1, SD.pow_1, SD.neg_1, SD.tr_non, SD.tr_bl, SD.tr_int, SD.tr_str, SD.tr_tup, SD.tr_lref, SD.lt_1, SD.le_1, SD.is_1, SD.is_2, SD.is_3, SD.is_4, SD.is_5, SD.is_6, SD.is_7, SD.cmp_eq, SD.cmp_ne, SD.cmp_lt, SD.cmp_le, SD.cmp_gt, SD.cmp_ge, SD.cmp_is, SD.cmp_isnot, SD.cmp_in, SD.cmp_notin, SD.eqk_int, SD.eqk_bl, SD.ix_tup, SD.ix_lref, SD.len_tup, SD.len_lref, SD.len_str, SD.abs_int, SD.int_int, SD.int_bl, SD.tuple_tup, SD.tuple_lref, SD.list_tup, SD.list_lref, SD.witer_tup, SD.witer_lref, SD.wzip_tup, SD.wipe_nil, SD.wipe_cons, SD.tru_nil, SD.tru_bl, SD.dE, SD.pairs, SD.allD, SD.anyD, SD.atI_0, SD.atI_1, SD.atI_2, SD.atI_3, SD.isa_NoneType_int, SD.isa_NoneType_bool, SD.isa_NoneType_str, SD.isa_NoneType_tuple, SD.isa_NoneType_list, SD.isa_bool_int, SD.isa_bool_bool, SD.isa_bool_str, SD.isa_bool_tuple, SD.isa_bool_list, SD.isa_int_int, SD.isa_int_bool, SD.isa_int_str, SD.isa_int_tuple, SD.isa_int_list, SD.isa_str_int, SD.isa_str_bool, SD.isa_str_str, SD.isa_str_tuple, SD.isa_str_list, SD.isa_tuple_int, SD.isa_tuple_bool, SD.isa_tuple_str, SD.isa_tuple_tuple, SD.isa_tuple_list, SD.isa_list_int, SD.isa_list_bool, SD.isa_list_str, SD.isa_list_tuple, SD.isa_list_list, List.length_cons, List.length_nil, List.map_cons, List.map_nil, List.set_cons_zero, List.set_cons_succ, List.replicate_succ, List.replicate_zero, List.cons_append, List.nil_append, List.zipWith_cons_cons, List.zipWith_nil_left, Nat.add_sub_cancel, Nat.reduceAdd, Nat.reduceSub, Nat.zero_add, Nat.sub_self, and_true, true_and, reduceCtorEq, if_true, if_false, ite_true, ite_false, Bool.false_eq_true, Bool.not_true, Bool.not_false, decide_eq_true_eq, SD.forLoop, SD.compLoop])
          rw [isFrac_no hab] at h4
          exact trQ_self rfl h4
        | true =>
          have e : (([isInt a, isInt b].all id)) = true := by simpa using hab
          simp only [e]
          rw [Bool.and_eq_true] at hab
          obtain ⟨ha, hb⟩ := hab
          cases a <;> first | (cases ha; done) | skip
          cases b <;> first | (cases hb; done) | skip
          rename_i n m
          ((try simp only [SD.startD, List.length_cons, List.length_nil, List.map_cons, List.map_nil, List.replicate_succ, List.replicate_zero, List.cons_append, List.nil_append, Nat.reduceAdd, Nat.reduceSub, Nat.zero_add]); simp only [↓SD.ev_nil, ↓SD.ev_seq, ↓SD.ev_next, ↓SD.ev_break, ↓SD.ev_cont, ↓SD.ev_expr, ↓SD.ev_ret, ↓SD.ev_retN, ↓SD.ev_asg, ↓SD.ev_aug, ↓SD.ev_if, ↓SD.ev_for, ↓SD.ev_raise, ↓SD.ev_try, ↓SD.ev_var, ↓SD.ev_c, ↓SD.ev_glob, ↓SD.ev_tup, ↓SD.ev_lst, ↓SD.ev_bin, ↓SD.ev_un, ↓SD.ev_b1, ↓SD.ev_tE, ↓SD.ev_tNot, ↓SD.ev_tAnd, ↓SD.ev_tOr, ↓SD.ev_tYes, ↓SD.ev_not, ↓SD.ev_and, ↓SD.ev_or, ↓SD.ev_ifE, ↓SD.ev_cmp, ↓SD.ev_chain, ↓SD.ev_ix, ↓SD.ev_slice, ↓SD.ev_part1, ↓SD.ev_part0, ↓SD.ev_call, ↓SD.ev_callV, ↓SD.ev_app, ↓SD.ev_gVar, ↓SD.ev_gTup, ↓SD.ev_gIx, ↓SD.ev_iE, ↓SD.ev_iRange1, ↓SD.ev_iRange2, ↓SD.ev_iZip, ↓SD.ev_comp, ↓SD.ev_tupC, ↓SD.ev_allC, ↓SD.ev_anyC, ↓SD.ev_cComp, ↓SD.eList, ↓SD.gSeq, ↓SD.look_zero, ↓SD.look_succ, ↓SD.isa_non, ↓SD.isa_bl, ↓SD.isa_int, ↓SD.isa_str, ↓SD.isa_tup, ↓SD.isa_lref, ↓SD.ite_tt, ↓SD.ite_ff, SD.add_1, SD.add_2, SD.add_3, SD.add_4, SD.sub_1, SD.sub_2, SD.mul_1, SD.mul_2, SD.fdiv_1, SD.mod_1, SD.pow_1, SD.neg_1, SD.tr_non, SD.tr_bl, SD.tr_int, SD.tr_str, SD.tr_tup, SD.tr_lref, SD.lt_1, SD.le_1, SD.is_1, SD.is_2, SD.is_3, SD.is_4, SD.is_5, SD.is_6, SD.is_7, SD.cmp_eq, SD.cmp_ne, SD.cmp_lt, SD.cmp_le, SD.cmp_gt, SD.cmp_ge, SD.cmp_is, SD.cmp_isnot, SD.cmp_in, SD.cmp_notin, SD.eqk_int, SD.eqk_bl, SD.ix_tup, SD.ix_lref, SD.len_tup, SD.len_lref, SD.len_str, SD.abs_int, SD.int_int, SD.int_bl, SD.tuple_tup, SD.tuple_lref, SD.list_tup, SD.list_lref, SD.witer_tup, SD.witer_lref, SD.wzip_tup, SD.wipe_nil, SD.wipe_cons, SD.tru_nil, SD.tru_bl, SD.dE, SD.pairs, SD.allD, SD.anyD, SD.atI_0, SD.atI_1, SD.atI_2, SD.atI_3, SD.isa_NoneType_int, SD.isa_NoneType_bool, SD.isa_NoneType_str, SD.isa_NoneType_tuple, SD.isa_NoneType_list, SD.isa_bool_int, SD.isa_bool_bool, SD.isa_bool_str, SD.isa_bool_tuple, SD.isa_bool_list, SD.isa_int_int, SD.isa_int_bool, SD.isa_int_str, SD.isa_int_tuple, SD.isa_int_list, SD.isa_str_int, SD.isa_str_bool, SD.isa_str_str, SD.isa_str_tuple, SD.isa_str_list, SD.isa_tuple_int, SD.isa_tuple_bool, SD.isa_tuple_str, SD.isa_tuple_tuple, SD.isa_tuple_list, SD.isa_list_int, SD.isa_list_bool, SD.isa_list_str, SD.isa_list_tuple, SD.isa_list_list, List.length_cons, List.length_nil, List.map_cons, List.map_nil, List.set_cons_zero, List.set_cons_succ, List.replicate_succ, List.replicate_zero, List.cons_append, List.nil_append, List.zipWith_cons_cons, List.zipWith_nil_left, Nat.add_sub_cancel, Nat.reduceAdd, Nat.reduceSub, Nat.zero_add, Nat.sub_self, and_true, true_and, reduceCtorEq, if_true, if_false, ite_true, ite_false, Bool.false_eq_true, Bool.not_true, Bool.not_false, decide_eq_true_eq, SD.forLoop, SD.compLoop, h2, sp_common, eqk_int])
          by_cases hm : 0 < m
          · simp only [hm, decide_true, if_true]
            refine trQ_self rfl ?_
            have e2 : isFrac (.tup [.int n, .int m]) = decide (((Int.gcd n m : Nat) : Int) = 1) := by
              show (decide (0 < m) && decide (Int.gcd n m = 1)) = _
              rw [decide_eq_true hm, Bool.true_and]
              congr 1
              exact propext ⟨fun z => by omega, fun z => by omega⟩
            rw [← e2]
            exact h4
          · simp only [hm, decide_false, Bool.false_eq_true, if_false]
            refine trQ_self rfl ?_
            have e2 : isFrac (.tup [.int n, .int m]) = false := by
              show (decide (0 < m) && decide (Int.gcd n m = 1)) = _
              rw [decide_eq_false hm, Bool.false_and]
            rw [← e2]
            exact h4
      · rw [isFrac_len hn] at h4
        ((try simp only [SD.startD, List.length_cons, List.length_nil, List.map_cons, List.map_nil, List.replicate_succ, List.replicate_zero, List.cons_append, List.nil_append, Nat.reduceAdd, Nat.reduceSub, Nat.zero_add]); simp only [↓SD.ev_nil, ↓SD.ev_seq, ↓SD.ev_next, ↓SD.ev_break, ↓SD.ev_cont, ↓SD.ev_expr, ↓SD.ev_ret, ↓SD.ev_retN, ↓SD.ev_asg, ↓SD.ev_aug, ↓SD.ev_if, ↓SD.ev_for, ↓SD.ev_raise, ↓SD.ev_try, ↓SD.ev_var, ↓SD.ev_c, ↓SD.ev_glob, ↓SD.ev_tup, ↓SD.ev_lst, ↓SD.ev_bin, ↓SD.ev_un, ↓SD.ev_b1, ↓SD.ev_tE, ↓SD.ev_tNot, ↓SD.ev_tAnd, ↓SD.ev_tOr, ↓SD.ev_tYes, ↓SD.ev_not, ↓SD.ev_and, ↓SD.ev_or, ↓SD.ev_ifE, ↓SD.ev_cmp, ↓SD.ev_chain, ↓SD.ev_ix, ↓SD.ev_slice, ↓SD.ev_part1, ↓SD.ev_part0, ↓SD.ev_call, ↓SD.ev_callV, ↓SD.ev_app, ↓SD.ev_gVar, ↓SD.ev_gTup, ↓SD.ev_gIx, ↓SD.ev_iE, ↓SD.ev_iRange1, ↓SD.ev_iRange2, ↓SD.ev_iZip, ↓SD.ev_comp, ↓SD.ev_tupC, ↓SD.ev_allC, ↓SD.ev_anyC, ↓SD.ev_cComp, ↓SD.eList, ↓SD.gSeq, ↓SD.look_zero, ↓SD.look_succ, ↓SD.isa_non, ↓SD.isa_bl, ↓SD.isa_int, ↓SD.isa_str, ↓SD.isa_tup, ↓SD.isa_lref, ↓SD.ite_tt, ↓SD.ite_ff, SD.add_1, SD.add_2, SD.add_3, SD.add_4, SD.sub_1, SD.sub_2, SD.mul_1, SD.mul_2, SD.fdiv_1, SD.mod_1, SD.pow_1, SD.neg_1, SD.tr_non, SD.tr_bl, SD.tr_int, SD.tr_str, SD.tr_tup, SD.tr_lref, SD.lt_1, SD.le_1, SD.is_1, SD.is_2, SD.is_3, SD.is_4, SD.is_5, SD.is_6, SD.is_7, SD.cmp_eq, SD.cmp_ne, SD.cmp_lt, SD.cmp_le, SD.cmp_gt, SD.cmp_ge, SD.cmp_is, SD.cmp_isnot, SD.cmp_in, SD.cmp_notin, SD.eqk_int, SD.eqk_bl, SD.ix_tup, SD.ix_lref, SD.len_tup, SD.len_lref, SD.len_str, SD.abs_int, SD.int_int, SD.int_bl, SD.tuple_tup, SD.tuple_lref, SD.list_tup, SD.list_lref, SD.witer_tup, SD.witer_lref, SD.wzip_tup, SD.wipe_nil, SD.wipe_cons, SD.tru_nil, SD.tru_bl, SD.dE, SD.pairs, SD.allD, SD.anyD, SD.atI_0, SD.atI_1, SD.atI_2, SD.atI_3, SD.isa_NoneType_int, SD.isa_NoneType_bool, SD.isa_NoneType_str, SD.isa_NoneType_tuple, SD.isa_NoneType_list, SD.isa_bool_int, SD.isa_bool_bool, SD.isa_bool_str, SD.isa_bool_tuple, SD.isa_bool_list, SD.isa_int_int, SD.isa_int_bool, SD.isa_int_str, SD.isa_int_tuple, SD.isa_int_list, SD.isa_str_int, SD.isa_str_bool, SD.isa_str_str, SD.isa_str_tuple, SD.isa_str_list, SD.isa_tuple_int, SD.isa_tuple_bool, SD.isa_tuple_str, SD.isa_tuple_tuple, SD.isa_tuple_list, SD.isa_list_int, SD.isa_list_bool, SD.isa_list_str, SD.isa_list_tuple, SD.isa_list_list, List.length_cons, List.length_nil, List.map_cons, List.map_nil, List.set_cons_zero, List.set_cons_succ, List.replicate_succ, List.replicate_zero, List.cons_append, List.nil_append, List.zipWith_cons_cons, List.zipWith_nil_left, Nat.add_sub_cancel, Nat.reduceAdd, Nat.reduceSub, Nat.zero_add, Nat.sub_self, and_true, true_and, reduceCtorEq, if_true, if_false, ite_true, ite_false, Bool.false_eq_true, Bool.not_true, Bool.not_false, decide_eq_true_eq, SD.forLoop, SD.compLoop, eqk_int])
        have e : decide ((xs.length : Int) = 2) = false := decide_eq_false (by omega)
        simp only [e]
        try ((try simp only [SD.startD, List.length_cons, List.length_nil, List.map_cons, List.map_nil, List.replicate_succ, List.replicate_zero, List.cons_append, List.nil_append, Nat.reduceAdd, Nat.reduceSub, Nat.zero_add]); simp only [↓SD.ev_nil, ↓SD.ev_seq, ↓SD.ev_next, ↓SD.ev_break, ↓SD.ev_cont, ↓SD.ev_expr, ↓SD.ev_ret, ↓SD.ev_retN, ↓SD.ev_asg, ↓SD.ev_aug, ↓SD.ev_if, ↓SD.ev_for, ↓SD.ev_raise, ↓SD.ev_try, ↓SD.ev_var, ↓SD.ev_c, ↓SD.ev_glob, ↓SD.ev_tup, ↓SD.ev_lst, ↓SD.ev_bin, ↓SD.ev_un, ↓SD.ev_b1, ↓SD.ev_tE, ↓SD.ev_tNot, ↓SD.ev_tAnd, ↓SD.ev_tOr, ↓SD.ev_tYes, ↓SD.ev_not, ↓SD.ev_and, ↓SD.ev_or, ↓SD.ev_ifE, ↓SD.ev_cmp, ↓SD.ev_chain, ↓SD.ev_ix, ↓SD.ev_slice, ↓SD.ev_part1, ↓SD.ev_part0, ↓SD.ev_call, ↓SD.ev_callV, ↓SD.ev_app, ↓SD.ev_gVar, ↓SD.ev_gTup, ↓SD.ev_gIx, ↓SD.ev_iE, ↓SD.ev_iRange1, ↓SD.ev_iRange2, ↓SD.ev_iZip, ↓SD.ev_comp, ↓SD.ev_tupC, ↓SD.ev_allC, ↓SD.ev_anyC, ↓SD.ev_cComp, ↓SD.eList, ↓SD.gSeq, ↓SD.look_zero, ↓SD.look_succ, ↓SD.isa_non, ↓SD.isa_bl, ↓SD.isa_int, ↓SD.isa_str, ↓SD.isa_tup, ↓SD.isa_lref, ↓SD.ite_tt, ↓SD.ite_ff, SD.add_1, SD.add_2, SD.add_3, SD.add_4, SD.sub_1, SD.sub_2, SD.mul_1, SD.mul_2, SD.fdiv_1, SD.mod_1, SD.pow_1, SD.neg_1, SD.tr_non, SD.tr_bl, SD.tr_int, SD.tr_str, SD.tr_tup, SD.tr_lref, SD.lt_1, SD.le_1, SD.is_1, SD.is_2, SD.is_3, SD.is_4, SD.is_5, SD.is_6, SD.is_7, SD.cmp_eq, SD.cmp_ne, SD.cmp_lt, SD.cmp_le, SD.cmp_gt, SD.cmp_ge, SD.cmp_is, SD.cmp_isnot, SD.cmp_in, SD.cmp_notin, SD.eqk_int, SD.eqk_bl, SD.ix_tup, SD.ix_lref, SD.len_tup, SD.len_lref, SD.len_str, SD.abs_int, SD.int_int, SD.int_bl, SD.tuple_tup, SD.tuple_lref, SD.list_tup, SD.list_lref, SD.witer_tup, SD.witer_lref, SD.wzip_tup, SD.wipe_nil, SD.wipe_cons, SD.tru_nil, SD.tru_bl, SD.dE, SD.pairs, SD.allD, SD.anyD, SD.atI_0, SD.atI_1, SD.atI_2, SD.atI_3, SD.isa_NoneType_int, SD.isa_NoneType_bool, SD.isa_NoneType_str, SD.isa_NoneType_tuple, SD.isa_NoneType_list, SD.isa_bool_int, SD.isa_bool_bool, SD.isa_bool_str, SD.isa_bool_tuple, SD.isa_bool_list, SD.isa_int_int, SD.isa_int_bool, SD.isa_int_str, SD.isa_int_tuple, SD.isa_int_list, SD.isa_str_int, SD.isa_str_bool, SD.isa_str_str, SD.isa_str_tuple, SD.isa_str_list, SD.isa_tuple_int, SD.isa_tuple_bool, SD.isa_tuple_str, SD.isa_tuple_tuple, SD.isa_tuple_list, SD.isa_list_int, SD.isa_list_bool, SD.isa_list_str, SD.isa_list_tuple, SD.isa_list_list, List.length_cons, List.length_nil, List.map_cons, List.map_nil, List.set_cons_zero, List.set_cons_succ, List.replicate_succ, List.replicate_zero, List.cons_append, List.nil_append, List.zipWith_cons_cons, List.zipWith_nil_left, Nat.add_sub_cancel, Nat.reduceAdd, Nat.reduceSub, Nat.zero_add, Nat.sub_self, and_true, true_and, reduceCtorEq, if_true, if_false, ite_true, ite_false, Bool.false_eq_true, Bool.not_true, Bool.not_false, decide_eq_true_eq, SD.forLoop, SD.compLoop])
        exact trQ_self rfl h4
    all_goals first
      | (cases h3; done)
      | (((try simp only [SD.startD, List.length_cons, List.length_nil, List.map_cons, List.map_nil, List.replicate_succ, List.replicate_zero, List.cons_append, List.nil_append, Nat.reduceAdd, Nat.reduceSub, Nat.zero_add]); simp only [↓SD.ev_nil, ↓SD.ev_seq, ↓SD.ev_next, ↓SD.ev_break, ↓SD.ev_cont, ↓SD.ev_expr, ↓SD.ev_ret, ↓SD.ev_retN, ↓SD.ev_asg, ↓SD.ev_aug, ↓SD.ev_if, ↓SD.ev_for, ↓SD.ev_raise, ↓SD.ev_try, ↓SD.ev_var, ↓SD.ev_c, ↓SD.ev_glob, ↓SD.ev_tup, ↓SD.ev_lst, ↓SD.ev_bin, ↓SD.ev_un, ↓SD.ev_b1, ↓SD.ev_tE, ↓SD.ev_tNot, ↓SD.ev_tAnd, ↓SD.ev_tOr, ↓SD.ev_tYes, ↓SD.ev_not, ↓SD.ev_and, ↓SD.ev_or, ↓SD.ev_ifE, ↓SD.ev_cmp, ↓SD.ev_chain, ↓SD.ev_ix, ↓SD.ev_slice, ↓SD.ev_part1, ↓SD.ev_part0, ↓SD.ev_call, ↓SD.ev_callV, ↓SD.ev_app, ↓SD.ev_gVar, ↓SD.ev_gTup, ↓SD.ev_gIx, ↓SD.ev_iE, ↓SD.ev_iRange1, ↓SD.ev_iRange2, ↓SD.ev_iZip, ↓SD.ev_comp, ↓SD.ev_tupC, ↓SD.ev_allC, ↓SD.ev_anyC, ↓SD.ev_cComp, ↓SD.eList, ↓SD.gSeq, ↓SD.look_zero, ↓SD.look_succ, ↓SD.isa_non, ↓SD.isa_bl, ↓SD.isa_int, ↓SD.isa_str, ↓SD.isa_tup, ↓SD.isa_lref, ↓SD.ite_tt, ↓SD.ite_ff, SD.add_1, SD.add_2, SD.add_3, SD.add_4, SD.sub_1, SD.sub_2, SD.mul_1, SD.mul_2, SD.fdiv_1, SD.mod_1, SD.pow_1, SD.neg_1, SD.tr_non, SD.tr_bl, SD.tr_int, SD.tr_str, SD.tr_tup, SD.tr_lref, SD.lt_1, SD.le_1, SD.is_1, SD.is_2, SD.is_3, SD.is_4, SD.is_5, SD.is_6, SD.is_7, SD.cmp_eq, SD.cmp_ne, SD.cmp_lt, SD.cmp_le, SD.cmp_gt, SD.cmp_ge, SD.cmp_is, SD.cmp_isnot, SD.cmp_in, SD.cmp_notin, SD.eqk_int, SD.eqk_bl, SD.ix_tup, SD.ix_lref, SD.len_tup, SD.len_lref, SD.len_str, SD.abs_int, SD.int_int, SD.int_bl, SD.tuple_tup, SD.tuple_lref, SD.list_tup, SD.list_lref, SD.witer_tup, SD.witer_lref, SD.wzip_tup, SD.wipe_nil, SD.wipe_cons, SD.tru_nil, SD.tru_bl, SD.dE, SD.pairs, SD.allD, SD.anyD, SD.atI_0, SD.atI_1, SD.atI_2, SD.atI_3, SD.isa_NoneType_int, SD.isa_NoneType_bool, SD.isa_NoneType_str, SD.isa_NoneType_tuple, SD.isa_NoneType_list, SD.isa_bool_int, SD.isa_bool_bool, SD.isa_bool_str, SD.isa_bool_tuple, SD.isa_bool_list, SD.isa_int_int, SD.isa_int_bool, SD.isa_int_str, SD.isa_int_tuple, SD.isa_int_list, SD.isa_str_int, SD.isa_str_bool, SD.isa_str_str, SD.isa_str_tuple, SD.isa_str_list, SD.isa_tuple_int, SD.isa_tuple_bool, SD.isa_tuple_str, SD.isa_tuple_tuple, SD.isa_tuple_list, SD.isa_list_int, SD.isa_list_bool, SD.isa_list_str, SD.isa_list_tuple, SD.isa_list_list, List.length_cons, List.length_nil, List.map_cons, List.map_nil, List.set_cons_zero, List.set_cons_succ, List.replicate_succ, List.replicate_zero, List.cons_append, List.nil_append, List.zipWith_cons_cons, List.zipWith_nil_left, Nat.add_sub_cancel, Nat.reduceAdd, Nat.reduceSub, Nat.zero_add, Nat.sub_self, and_true, true_and, reduceCtorEq, if_true, if_false, ite_true, ite_false, Bool.false_eq_true, Bool.not_true, Bool.not_false, decide_eq_true_eq, SD.forLoop, SD.compLoop]); exact trQ_self rfl h4)
def isSmall : D → Bool
  | .tup [.int n, .int m] => decide (0 - 1000000 ≤ n) && decide (n ≤ 1000000) && (decide (1 ≤ m) && decide (m ≤ 1000000)) && isFrac (.tup [.int n, .int m])
  | _ => false
def sp_is_small : FnD := ⟨1, fun ds S _ Q => match ds with
  | [d] => okT d = true ∧ Q (.bl (isSmall d)) S
  | _ => False⟩
theorem isSmall_len {xs : List D} (h : xs.length ≠ 2) : isSmall (.tup xs) = false := by
  match xs with
  | [] => rfl
  | [_] => unfold isSmall; split <;> simp_all
  | [a, b] => exact absurd rfl h
  | _ :: _ :: _ :: _ => unfold isSmall; split <;> simp_all
/-- in_range of any value -/
def inRange (d : D) (a b : Int) : Bool := match d with
  | .int n => decide (a ≤ n) && decide (n ≤ b)
  | _ => false
theorem range_sp {d : D} {a b : Int} {S : Store} {E : QX} {Q : QV} (h : (tyD d).isSome = true) (q : Q (.bl (inRange d a b)) S) : sp_in_range.sp [d, .int a, .int b] S E Q := by
  cases d <;> first | (cases h; done) | exact q | exact ⟨rfl, rfl, q⟩
theorem isSmall_eq {a b : D} : isSmall (.tup [a, b]) = (inRange a (0 - 1000000) 1000000 && inRange b 1 1000000 && isFrac (.tup [a, b])) := by
  cases a <;> cases b <;> first | rfl | (simp [isSmall, inRange, isFrac]) 
theorem h_is_small (T : Tab) (h1 : T.sp "in_range" = some sp_in_range) (h2 : T.sp "is_fraction" = some sp_is_fraction) (h3 : T.glob "MAX_NUMBER" = some (.int 1000000)) : Meets sp_is_small N_is_small (t_is_small T) := by
  intro ds S E Q hl h
  match ds, hl, h with
  | [d], _, ⟨h4, h5⟩ =>
    unfold t_is_small N_is_small
    cases d
    case tup xs hl0 =>
      rcases @two_case xs with ⟨a, b, rfl⟩ | hn
      · have h6 : (tyD a).isSome = true ∧ (tyD b).isSome = true := by
          have := h4
          simp only [okT, tys, Bool.and_eq_true] at this
          exact ⟨this.1.1, this.1.2.1⟩
        rw [isSmall_eq] at h5
        ((try simp only [SD.startD, List.length_cons, List.length_nil, List.map_cons, List.map_nil, List.replicate_succ, List.replicate_zero, List.cons_append, List.nil_append, Nat.reduceAdd, Nat.reduceSub, Nat.zero_add]); simp only [↓SD.ev_nil, ↓SD.ev_seq, ↓SD.ev_next, ↓SD.ev_break, ↓SD.ev_cont, ↓SD.ev_expr, ↓SD.ev_ret, ↓SD.ev_retN, ↓SD.ev_asg, ↓SD.ev_aug, ↓SD.ev_if, ↓SD.ev_for, ↓SD.ev_raise, ↓SD.ev_try, ↓SD.ev_var, ↓SD.ev_c, ↓SD.ev_glob, ↓SD.ev_tup, ↓SD.ev_lst, ↓SD.ev_bin, ↓SD.ev_un, ↓SD.ev_b1, ↓SD.ev_tE, ↓SD.ev_tNot, ↓SD.ev_tAnd, ↓SD.ev_tOr, ↓SD.ev_tYes, ↓SD.ev_not, ↓SD.ev_and, ↓SD.ev_or, ↓SD.ev_ifE, ↓SD.ev_cmp, ↓SD.ev_chain, ↓SD.ev_ix, ↓SD.ev_slice, ↓SD.ev_part1, ↓SD.ev_part0, ↓SD.ev_call, ↓SD.ev_callV, ↓SD.ev_app, ↓SD.ev_gVar, ↓SD.ev_gTup, ↓SD.ev_gIx, ↓SD.ev_iE, ↓SD.ev_iRange1, ↓SD.ev_iRange2, ↓SD.ev_iZip, ↓SD.ev_comp, ↓SD.ev_tupC, ↓SD.ev_allC, ↓SD.ev_anyC, ↓SD.ev_cComp, ↓SD.eList, ↓SD.gSeq, ↓SD.look_zero, ↓SD.look_succ, ↓SD.isa_non, ↓SD.isa_bl, ↓SD.isa_int, ↓SD.isa_str, ↓SD.isa_tup, ↓SD.isa_lref, ↓SD.ite_tt, ↓SD.ite_ff, SD.add_1, SD.add_2, SD.add_3, SD.add_4, SD.sub_1, SD.sub_2, SD.mul_1, SD.mul_2, SD.fdiv_1, SD.mod_1, SD.pow_1, SD.neg_1, SD.tr_non, SD.tr_bl, SD.tr_int, SD.tr_str, SD.tr_tup, SD.tr_lref, SD.lt_1, SD.le_1, SD.is_1, SD.is_2, SD.is_3, SD.is_4, SD.is_5, SD.is_6, SD.is_7, SD.cmp_eq, SD.cmp_ne, SD.cmp_lt, SD.cmp_le, SD.cmp_gt, SD.cmp_ge, SD.cmp_is, SD.cmp_isnot, SD.cmp_in, SD.cmp_notin, SD.eqk_int, SD.eqk_bl, SD.ix_tup, SD.ix_lref, SD.len_tup, SD.len_lref, SD.len_str, SD.abs_int, SD.int_int, SD.int_bl, SD.tuple_tup, SD.tuple_lref, SD.list_tup, SD.list_lref, SD.witer_tup, SD.witer_lref, SD.wzip_tup, SD.wipe_nil, SD.wipe_cons, SD.tru_nil, SD.tru_bl, SD.dE, SD.pairs, SD.allD, SD.anyD, SD.atI_0, SD.atI_1, SD.atI_2, SD.atI_3, SD.isa_NoneType_int, SD.isa_NoneType_bool, SD.isa_NoneType_str, SD.isa_NoneType_tuple, SD.isa_NoneType_list, SD.isa_bool_int, SD.isa_bool_bool, SD.isa_bool_str, SD.isa_bool_tuple, SD.isa_bool_list, SD.isa_int_int, SD.isa_int_bool, SD.isa_int_str, SD.isa_int_tuple, SD.isa_int_list, SD.isa_str_int, SD.isa_str_bool, SD.isa_str_str, SD.isa_str_tuple, SD.isa_str_list, SD.isa_tuple_int, SD.isa_tuple_bool, SD.isa_tuple_str, SD.isa_tuple_tuple, SD.isa_tuple_list, SD.isa_list_int, SD.isa_list_bool, SD.isa_list_str, SD.isa_list_tuple, SD.isa_list_list, List.length_cons, List.length_nil, List.map_cons, List.map_nil, List.set_cons_zero, List.set_cons_succ, List.replicate_succ, List.replicate_zero, List.cons_append, List.nil_append, List.zipWith_cons_cons, List.zipWith_nil_left, Nat.add_sub_cancel, Nat.reduceAdd, Nat.reduceSub, Nat.zero_add, Nat.sub_self, and_true, true_and, reduceCtorEq, if_true, if_false, ite_true, ite_false, Bool.false_eq_true, Bool.not_true, Bool.not_false, decide_eq_true_eq, SD.forLoop, SD.compLoop, eqk_int, h3])
        try simp only [show (decide (((2 : Nat) : Int) = 2)) = true by decide]
        ((try simp only [SD.startD, List.length_cons, List.length_nil, List.map_cons, List.map_nil, List.replicate_succ, List.replicate_zero, List.cons_append, List.nil_append, Nat.reduceAdd, Nat.reduceSub, Nat.zero_add]); simp only [↓SD.ev_nil, ↓SD.ev_seq, ↓SD.ev_next, ↓SD.ev_break, ↓SD.ev_cont, ↓SD.ev_expr, ↓SD.ev_ret, ↓SD.ev_retN, ↓SD.ev_asg, ↓SD.ev_aug, ↓SD.ev_if, ↓SD.ev_for, ↓SD.ev_raise, ↓SD.ev_try, ↓SD.ev_var, ↓SD.ev_c, ↓SD.ev_glob, ↓SD.ev_tup, ↓SD.ev_lst, ↓SD.ev_bin, ↓SD.ev_un, ↓SD.ev_b1, ↓SD.ev_tE, ↓SD.ev_tNot, ↓SD.ev_tAnd, ↓SD.ev_tOr, ↓SD.ev_tYes, ↓SD.ev_not, ↓SD.ev_and, ↓SD.ev_or, ↓SD.ev_ifE, ↓SD.ev_cmp, ↓SD.ev_chain, ↓SD.ev_ix, ↓SD.ev_slice, ↓SD.ev_part1, ↓SD.ev_part0, ↓SD.ev_call, ↓SD.ev_callV, ↓SD.ev_app, ↓SD.ev_gVar, ↓SD.ev_gTup, ↓SD.ev_gIx, ↓SD.ev_iE, ↓SD.ev_iRange1, ↓SD.ev_iRange2, ↓SD.ev_iZip, ↓SD.ev_comp, ↓SD.ev_tupC, ↓SD.ev_allC, ↓SD.ev_anyC, ↓SD.ev_cComp, ↓SD.eList, ↓SD.gSeq, ↓SD.look_zero, ↓SD.look_succ, ↓SD.isa_non, ↓SD.isa_bl, ↓SD.isa_int, ↓SD.isa_str, ↓SD.isa_tup, ↓SD.isa_lref, ↓SD.ite_tt, ↓SD.ite_ff, SD.add_1, SD.add_2, SD.add_3, SD.add_4, SD.sub_1, SD.sub_2, SD.mul_1, SD.mul_2, SD.fdiv_1, SD.mod_1, SD.pow_1, SD.neg_1, SD.tr_non, SD.tr_bl, SD.tr_int, SD.tr_str, SD.tr_tup, SD.tr_lref, SD.lt_1, SD.le_1, SD.is_1, SD.is_2, SD.is_3, SD.is_4, SD.is_5, SD.is_6, SD.is_7, SD.cmp_eq, SD.cmp_ne, SD.cmp_lt, SD.cmp_le, SD.cmp_gt, SD.cmp_ge, SD.cmp_is, SD.cmp_isnot, SD.cmp_in, SD.cmp_notin, SD.eqk_int, SD.eqk_bl, SD.ix_tup, SD.ix_lref, SD.len_tup, SD.len_lref, SD.len_str, SD.abs_int, SD.int_int, SD.int_bl, SD.tuple_tup, SD.tuple_lref, SD.list_tup, SD.list_lref, SD.witer_tup, SD.witer_lref, SD.wzip_tup, SD.wipe_nil, SD.wipe_cons, SD.tru_nil, SD.tru_bl, SD.dE, SD.pairs, SD.allD, SD.anyD, SD.atI_0, SD.atI_1, SD.atI_2, SD.atI_3, SD.isa_NoneType_int, SD.isa_NoneType_bool, SD.isa_NoneType_str, SD.isa_NoneType_tuple, SD.isa_NoneType_list, SD.isa_bool_int, SD.isa_bool_bool, SD.isa_bool_str, SD.isa_bool_tuple, SD.isa_bool_list, SD.isa_int_int, SD.isa_int_bool, SD.isa_int_str, SD.isa_int_tuple, SD.isa_int_list, SD.isa_str_int, SD.isa_str_bool, SD.isa_str_str, SD.isa_str_tuple, SD.isa_str_list, SD.isa_tuple_int, SD.isa_tuple_bool, SD.isa_tuple_str, SD.isa_tuple_tuple, SD.isa_tuple_list, SD.isa_list_int, SD.isa_list_bool, SD.isa_list_str, SD.isa_list_tuple, SD.isa_list_list, List.length_cons, List.length_nil, List.map_cons, List.map_nil, List.set_cons_zero, List.set_cons_succ, List.replicate_succ, List.replicate_zero, List.cons_append, List.nil_append, List.zipWith_cons_cons, List.zipWith_nil_left, Nat.add_sub_cancel, Nat.reduceAdd, Nat.reduceSub, Nat.zero_add, Nat.sub_self, and_true, true_and, reduceCtorEq, if_true, if_false, ite_true, ite_false, Bool.false_eq_true, Bool.not_true, Bool.not_false, decide_eq_true_eq, SD.forLoop, SD.compLoop, h1, h3])
        refine ⟨rfl, range_sp h6.1 ?_⟩
        try ((try simp only [SD.startD, List.length_cons, List.length_nil, List.map_cons, List.map_nil, List.replicate_succ, List.replicate_zero, List.cons_append, List.nil_append, Nat.reduceAdd, Nat.reduceSub, Nat.zero_add]); simp only [↓SD.ev_nil, ↓SD.ev_seq, ↓SD.ev_next, ↓SD.ev_break, ↓SD.ev_cont, ↓SD.ev_expr, ↓SD.ev_ret, ↓SD.ev_retN, ↓SD.ev_asg, ↓SD.ev_aug, ↓SD.ev_if, ↓SD.ev_for, ↓SD.ev_raise, ↓SD.ev_try, ↓SD.ev_var, ↓SD.ev_c, ↓SD.ev_glob, ↓SD.ev_tup, ↓SD.ev_lst, ↓SD.ev_bin, ↓SD.ev_un, ↓SD.ev_b1, ↓SD.ev_tE, ↓SD.ev_tNot, ↓SD.ev_tAnd, ↓SD.ev_tOr, ↓SD.ev_tYes, ↓SD.ev_not, ↓SD.ev_and, ↓SD.ev_or, ↓SD.ev_ifE, ↓SD.ev_cmp, ↓SD.ev_chain, ↓SD.ev_ix, ↓SD.ev_slice, ↓SD.ev_part1, ↓SD.ev_part0, ↓SD.ev_call, ↓SD.ev_callV, ↓SD.ev_app, ↓SD.ev_gVar, ↓SD.ev_gTup, ↓SD.ev_gIx, ↓SD.ev_iE, ↓SD.ev_iRange1, ↓SD.ev_iRange2, ↓SD.ev_iZip, ↓SD.ev_comp, ↓SD.ev_tupC, ↓SD.ev_allC, ↓SD.ev_anyC, ↓SD.ev_cComp, ↓SD.eList, ↓SD.gSeq, ↓SD.look_zero, ↓SD.look_succ, ↓SD.isa_non, ↓SD.isa_bl, ↓SD.isa_int, ↓SD.isa_str, ↓SD.isa_tup, ↓SD.isa_lref, ↓SD.ite_tt, ↓SD.ite_ff, SD.add_1, SD.add_2, SD.add_3, SD.add_4, SD.sub_1, SD.sub_2, SD.mul_1, SD.mul_2, SD.fdiv_1, SD.mod_1, SD.pow_1, SD.neg_1, SD.tr_non, SD.tr_bl, SD.tr_int, SD.tr_str, SD.tr_tup, SD.tr_lref, SD.lt_1, SD.le_1, SD.is_1, SD.is_2, SD.is_3, SD.is_4, SD.is_5, SD.is_6, SD.is_7, SD.cmp_eq, SD.cmp_ne, SD.cmp_lt, SD.cmp_le, SD.cmp_gt, SD.cmp_ge, SD.cmp_is, SD.cmp_isnot, SD.cmp_in, SD.cmp_notin, SD.eqk_int, SD.eqk_bl, SD.ix_tup, SD.ix_lref, SD.len_tup, SD.len_lref, SD.len_str, SD.abs_int, SD.int_int, SD.int_bl, SD.tuple_tup, SD.tuple_lref, SD.list_tup, SD.list_lref, SD.witer_tup, SD.witer_lref, SD.wzip_tup, SD.wipe_nil, SD.wipe_cons, SD.tru_nil, SD.tru_bl, SD.dE, SD.pairs, SD.allD, SD.anyD, SD.atI_0, SD.atI_1, SD.atI_2, SD.atI_3, SD.isa_NoneType_int, SD.isa_NoneType_bool, SD.isa_NoneType_str, SD.isa_NoneType_tuple, SD.isa_NoneType_list, SD.isa_bool_int, SD.isa_bool_bool, SD.isa_bool_str, SD.isa_bool_tuple, SD.isa_bool_list, SD.isa_int_int, SD.isa_int_bool, SD.isa_int_str, SD.isa_int_tuple, SD.isa_int_list, SD.isa_str_int, SD.isa_str_bool, SD.isa_str_str, SD.isa_str_tuple, SD.isa_str_list, SD.isa_tuple_int, SD.isa_tuple_bool, SD.isa_tuple_str, SD.isa_tuple_tuple, SD.isa_tuple_list, SD.isa_list_int, SD.isa_list_bool, SD.isa_list_str, SD.isa_list_tuple, SD.isa_list_list, List.length_cons, List.length_nil, List.map_cons, List.map_nil, List.set_cons_zero, List.set_cons_succ, List.replicate_succ, List.replicate_zero, List.cons_append, List.nil_append, List.zipWith_cons_cons, List.zipWith_nil_left, Nat.add_sub_cancel, Nat.reduceAdd, Nat.reduceSub, Nat.zero_add, Nat.sub_self, and_true, true_and, reduceCtorEq, if_true, if_false, ite_true, ite_false, Bool.false_eq_true, Bool.not_true, Bool.not_false, decide_eq_true_eq, SD.forLoop, SD.compLoop])
        cases e1 : inRange a (0 - 1000000) 1000000 with
        | false =>
          rw [e1] at h5
          ((try simp only [SD.startD, List.length_cons, List.length_nil, List.map_cons, List.map_nil, List.replicate_succ, List.replicate_zero, List.cons_append, List.nil_append, Nat.reduceAdd, Nat.reduceSub, Nat.zero_add]); simp only [↓SD.ev_nil, ↓SD.ev_seq, ↓SD.ev_next, ↓SD.ev_break, ↓SD.ev_cont, ↓SD.ev_expr, ↓SD.ev_ret, ↓SD.ev_retN, ↓SD.ev_asg, ↓SD.ev_aug, ↓SD.ev_if, ↓SD.ev_for, ↓SD.ev_raise, ↓SD.ev_try, ↓SD.ev_var, ↓SD.ev_c, ↓SD.ev_glob, ↓SD.ev_tup, ↓SD.ev_lst, ↓SD.ev_bin, ↓SD.ev_un, ↓SD.ev_b1, ↓SD.ev_tE, ↓SD.ev_tNot, ↓SD.ev_tAnd, ↓SD.ev_tOr, ↓SD.ev_tYes, ↓SD.ev_not, ↓SD.ev_and, ↓SD.ev_or, ↓SD.ev_ifE, ↓SD.ev_cmp, ↓SD.ev_chain, ↓SD.ev_ix, ↓SD.ev_slice, ↓SD.ev_part1, ↓SD.ev_part0, ↓SD.ev_call, ↓SD.ev_callV, ↓SD.ev_app, ↓SD.ev_gVar, ↓SD.ev_gTup, ↓SD.ev_gIx, ↓SD.ev_iE, ↓SD.ev_iRange1, ↓SD.ev_iRange2, ↓SD.ev_iZip, ↓SD.ev_comp, ↓SD.ev_tupC, ↓SD.ev_allC, ↓SD.ev_anyC, ↓SD.ev_cComp, ↓SD.eList, ↓SD.gSeq, ↓SD.look_zero, ↓SD.look_succ, ↓SD.isa_non, ↓SD.isa_bl, ↓SD.isa_int, ↓SD.isa_str, ↓SD.isa_tup, ↓SD.isa_lref, ↓SD.ite_tt, ↓SD.ite_ff, SD.add_1, SD.add_2, SD.add_3, SD.add_4, SD.sub_1, SD.sub_2, SD.mul_1, SD.mul_2, SD.fdiv_1, SD.mod_1, SD.pow_1, SD.neg_1, SD.tr_non, SD.tr_bl, SD.tr_int, SD.tr_str, SD.tr_tup, SD.tr_lref, SD.lt_1, SD.le_1, SD.is_1, SD.is_2, SD.is_3, SD.is_4, SD.is_5, SD.is_6, SD.is_7, SD.cmp_eq, SD.cmp_ne, SD.cmp_lt, SD.cmp_le, SD.cmp_gt, SD.cmp_ge, SD.cmp_is, SD.cmp_isnot, SD.cmp_in, SD.cmp_notin, SD.eqk_int, SD.eqk_bl, SD.ix_tup, SD.ix_lref, SD.len_tup, SD.len_lref, SD.len_str, SD.abs_int, SD.int_int, SD.int_bl, SD.tuple_tup, SD.tuple_lref, SD.list_tup, SD.list_lref, SD.witer_tup, SD.witer_lref, SD.wzip_tup, SD.wipe_nil, SD.wipe_cons, SD.tru_nil, SD.tru_bl, SD.dE, SD.pairs, SD.allD, SD.anyD, SD.atI_0, SD.atI_1, SD.atI_2, SD.atI_3, SD.isa_NoneType_int, SD.isa_NoneType_bool, SD.isa_NoneType_str, SD.isa_NoneType_tuple, SD.isa_NoneType_list, SD.isa_bool_int, SD.isa_bool_bool, SD.isa_bool_str, SD.isa_bool_tuple, SD.isa_bool_list, SD.isa_int_int, SD.isa_int_bool, SD.isa_int_str, SD.isa_int_tuple, SD.isa_int_list, SD.isa_str_int, SD.isa_str_bool, SD.isa_str_str, SD.isa_str_tuple, SD.isa_str_list, SD.isa_tuple_int, SD.isa_tuple_bool, SD.isa_tuple_str, SD.isa_tuple_tuple, SD.isa_tuple_list, SD.isa_list_int, SD.isa_list_bool, SD.isa_list_str, SD.isa_list_tuple, SD.isa_list_list, List.length_cons, List.length_nil, List.map_cons, List.map_nil, List.set_cons_zero, List.set_cons_succ, List.replicate_succ, List.replicate_zero, List.cons_append, List.nil_append, List.zipWith_cons_cons, List.zipWith_nil_left, Nat.add_sub_cancel, Nat.reduceAdd, Nat.reduceSub, Nat.zero_add, Nat.sub_self, and_true, true_and, reduceCtorEq, if_true, if_false, ite_true, ite_false, Bool.false_eq_true, Bool.not_true, Bool.not_false, decide_eq_true_eq, SD.forLoop, SD.compLoop])
          exact trQ_self rfl h5
        | true =>
          rw [e1] at h5
          ((try simp only [SD.startD, List.length_cons, List.length_nil, List.map_cons, List.map_nil, List.replicate_succ, List.replicate_zero, List.cons_append, List.nil_append, Nat.reduceAdd, Nat.reduceSub, Nat.zero_add]); simp only [↓SD.ev_nil, ↓SD.ev_seq, ↓SD.ev_next, ↓SD.ev_break, ↓SD.ev_cont, ↓SD.ev_expr, ↓SD.ev_ret, ↓SD.ev_retN, ↓SD.ev_asg, ↓SD.ev_aug, ↓SD.ev_if, ↓SD.ev_for, ↓SD.ev_raise, ↓SD.ev_try, ↓SD.ev_var, ↓SD.ev_c, ↓SD.ev_glob, ↓SD.ev_tup, ↓SD.ev_lst, ↓SD.ev_bin, ↓SD.ev_un, ↓SD.ev_b1, ↓SD.ev_tE, ↓SD.ev_tNot, ↓SD.ev_tAnd, ↓SD.ev_tOr, ↓SD.ev_tYes, ↓SD.ev_not, ↓SD.ev_and, ↓SD.ev_or, ↓SD.ev_ifE, ↓SD.ev_cmp, ↓SD.ev_chain, ↓SD.ev_ix, ↓SD.ev_slice, ↓SD.ev_part1, ↓SD.ev_part0, ↓SD.ev_call, ↓SD.ev_callV, ↓SD.ev_app, ↓SD.ev_gVar, ↓SD.ev_gTup, ↓SD.ev_gIx, ↓SD.ev_iE, ↓SD.ev_iRange1, ↓SD.ev_iRange2, ↓SD.ev_iZip, ↓SD.ev_comp, ↓SD.ev_tupC, ↓SD.ev_allC, ↓SD.ev_anyC, ↓SD.ev_cComp, ↓SD.eList, ↓SD.gSeq, ↓SD.look_zero, ↓SD.look_succ, ↓SD.isa_non, ↓SD.isa_bl, ↓SD.isa_int, ↓SD.isa_str, ↓SD.isa_tup, ↓SD.isa_lref, ↓SD.ite_tt, ↓SD.ite_ff, SD.add_1, SD.add_2, SD.add_3, SD.add_4, SD.sub_1, SD.sub_2, SD.mul_1, SD.mul_2, SD.fdiv_1, SD.mod_1, SD.pow_1, SD.neg_1, SD.tr_non, SD.tr_bl, SD.tr_int, SD.tr_str, SD.tr_tup, SD.tr_lref, SD.lt_1, SD.le_1, SD.is_1, SD.is_2, SD.is_3, SD.is_4, SD.is_5, SD.is_6, SD.is_7, SD.cmp_eq, SD.cmp_ne, SD.cmp_lt, SD.cmp_le, SD.cmp_gt, SD.cmp_ge, SD.cmp_is, SD.cmp_isnot, SD.cmp_in, SD.cmp_notin, SD.eqk_int, SD.eqk_bl, SD.ix_tup, SD.ix_lref, SD.len_tup, SD.len_lref, SD.len_str, SD.abs_int, SD.int_int, SD.int_bl, SD.tuple_tup, SD.tuple_lref, SD.list_tup, SD.list_lref, SD.witer_tup, SD.witer_lref, SD.wzip_tup, SD.wipe_nil, SD.wipe_cons, SD.tru_nil, SD.tru_bl, SD.dE, SD.pairs, SD.allD, SD.anyD, SD.atI_0, SD.atI_1, SD.atI_2, SD.atI_3, SD.isa_NoneType_int, SD.isa_NoneType_bool, SD.isa_NoneType_str, SD.isa_NoneType_tuple, SD.isa_NoneType_list, SD.isa_bool_int, SD.isa_bool_bool, SD.isa_bool_str, SD.isa_bool_tuple, SD.isa_bool_list, SD.isa_int_int, SD.isa_int_bool, SD.isa_int_str, SD.isa_int_tuple, SD.isa_int_list, SD.isa_str_int, SD.isa_str_bool, SD.isa_str_str, SD.isa_str_tuple, SD.isa_str_list, SD.isa_tuple_int, SD.isa_tuple_bool, SD.isa_tuple_str, SD.isa_tuple_tuple, SD.isa_tuple_list, SD.isa_list_int, SD.isa_list_bool, SD.isa_list_str, SD.isa_list_tuple, SD.isa_list_list, List.length_cons, List.length_nil, List.map_cons, List.map_nil, List.set_cons_zero, List.set_cons_succ, List.replicate_succ, List.replicate_zero, List.cons_append, List.nil_append, List.zipWith_cons_cons, List.zipWith_nil_left, Nat.add_sub_cancel, Nat.reduceAdd, Nat.reduceSub, Nat.zero_add, Nat.sub_self, and_true, true_and, reduceCtorEq, if_true, if_false, ite_true, ite_false, Bool.false_eq_true, Bool.not_true, Bool.not_false, decide_eq_true_eq, SD.forLoop, SD.compLoop, h1, h3])
          refine ⟨rfl, range_sp h6.2 ?_⟩
          cases e2 : inRange b 1 1000000 with
          | false =>
            rw [e2] at h5
            ((try simp only [SD.startD, List.length_cons, List.length_nil, List.map_cons, List.map_nil, List.replicate_succ, List.replicate_zero, List.cons_append, List.nil_append, Nat.reduceAdd, Nat.reduceSub, Nat.zero_add]); simp only [↓SD.ev_nil, ↓SD.ev_seq, ↓SD.ev_next, ↓SD.ev_break, ↓SD.ev_cont, ↓SD.ev_expr, ↓SD.ev_ret, ↓SD.ev_retN, ↓SD.ev_asg, ↓SD.ev_aug, ↓SD.ev_if, ↓SD.ev_for, ↓SD.ev_raise, ↓SD.ev_try, ↓SD.ev_var, ↓SD.ev_c, ↓SD.ev_glob, ↓SD.ev_tup, ↓SD.ev_lst, ↓SD.ev_bin, ↓SD.ev_un, ↓SD.ev_b1, ↓SD.ev_tE, ↓SD.ev_tNot, ↓SD.ev_tAnd, ↓SD.ev_tOr, ↓SD.ev_tYes, ↓SD.ev_not, ↓SD.ev_and, ↓SD.ev_or, ↓SD.ev_ifE, ↓SD.ev_cmp, ↓SD.ev_chain, ↓SD.ev_ix, ↓SD.ev_slice, ↓SD.ev_part1, ↓SD.ev_part0, ↓SD.ev_call, ↓SD.ev_callV, ↓SD.ev_app, ↓SD.ev_gVar, ↓SD.ev_gTup, ↓SD.ev_gIx, ↓SD.ev_iE, ↓SD.ev_iRange1, ↓SD.ev_iRange2, ↓SD.ev_iZip, ↓SD.ev_comp, ↓SD.ev_tupC, ↓SD.ev_allC, ↓SD.ev_anyC, ↓SD.ev_cComp, ↓SD.eList, ↓SD.gSeq, ↓SD.look_zero, ↓SD.look_succ, ↓SD.isa_non, ↓SD.isa_bl, ↓SD.isa_int, ↓SD.isa_str, ↓SD.isa_tup, ↓SD.isa_lref, ↓SD.ite_tt, ↓SD.ite_ff, SD.add_1, SD.add_2, SD.add_3, SD.add_4, SD.sub_1, SD.sub_2, SD.mul_1, SD.mul_2, SD.fdiv_1, SD.mod_1, SD.pow_1, SD.neg_1, SD.tr_non, SD.tr_bl, SD.tr_int, SD.tr_str, SD.tr_tup, SD.tr_lref, SD.lt_1, SD.le_1, SD.is_1, SD.is_2, SD.is_3, SD.is_4, SD.is_5, SD.is_6, SD.is_7, SD.cmp_eq, SD.cmp_ne, SD.cmp_lt, SD.cmp_le, SD.cmp_gt, SD.cmp_ge, SD.cmp_is, SD.cmp_isnot, SD.cmp_in, SD.cmp_notin, SD.eqk_int, SD.eqk_bl, SD.ix_tup, SD.ix_lref, SD.len_tup, SD.len_lref, SD.len_str, SD.abs_int, SD.int_int, SD.int_bl, SD.tuple_tup, SD.tuple_lref, SD.list_tup, SD.list_lref, SD.witer_tup, SD.witer_lref, SD.wzip_tup, SD.wipe_nil, SD.wipe_cons, SD.tru_nil, SD.tru_bl, SD.dE, SD.pairs, SD.allD, SD.anyD, SD.atI_0, SD.atI_1, SD.atI_2, SD.atI_3, SD.isa_NoneType_int, SD.isa_NoneType_bool, SD.isa_NoneType_str, SD.isa_NoneType_tuple, SD.isa_NoneType_list, SD.isa_bool_int, SD.isa_bool_bool, SD.isa_bool_str, SD.isa_bool_tuple, SD.isa_bool_list, SD.isa_int_int, SD.isa_int_bool, SD.isa_int_str, SD.isa_int_tuple, SD.isa_int_list, SD.isa_str_int, SD.isa_str_bool, SD.isa_str_str, SD.isa_str_tuple, SD.isa_str_list, SD.isa_tuple_int, SD.isa_tuple_bool, SD.isa_tuple_str, SD.isa_tuple_tuple, SD.isa_tuple_list, SD.isa_list_int, SD.isa_list_bool, SD.isa_list_str, SD.isa_list_tuple, SD.isa_list_list, List.length_cons, List.length_nil, List.map_cons, List.map_nil, List.set_cons_zero, List.set_cons_succ, List.replicate_succ, List.replicate_zero, List.cons_append, List.nil_append, List.zipWith_cons_cons, List.zipWith_nil_left, Nat.add_sub_cancel, Nat.reduceAdd, Nat.reduceSub, Nat.zero_add, Nat.sub_self, and_true, true_and, reduceCtorEq, if_true, if_false, ite_true, ite_false, Bool.false_eq_true, Bool.not_true, Bool.not_false, decide_eq_true_eq, SD.forLoop, SD.compLoop])
            exact trQ_self rfl h5
          | true =>
            rw [e2] at h5
            ((try simp only [SD.startD, List.length_cons, List.length_nil, List.map_cons, List.map_nil, List.replicate_succ, List.replicate_zero, List.cons_append, List.nil_append, Nat.reduceAdd, Nat.reduceSub, Nat.zero_add]); simp only [↓SD.ev_nil, ↓SD.ev_seq, ↓SD.ev_next, ↓SD.ev_break, ↓SD.ev_cont, ↓SD.ev_expr, ↓SD.ev_ret, ↓SD.ev_retN, ↓SD.ev_asg, ↓SD.ev_aug, ↓SD.ev_if, ↓SD.ev_for, ↓SD.ev_raise, ↓SD.ev_try, ↓SD.ev_var, ↓SD.ev_c, ↓SD.ev_glob, ↓SD.ev_tup, ↓SD.ev_lst, ↓SD.ev_bin, ↓SD.ev_un, ↓SD.ev_b1, ↓SD.ev_tE, ↓SD.ev_tNot, ↓SD.ev_tAnd, ↓SD.ev_tOr, ↓SD.ev_tYes, ↓SD.ev_not, ↓SD.ev_and, ↓SD.ev_or, ↓SD.ev_ifE, ↓SD.ev_cmp, ↓SD.ev_chain, ↓SD.ev_ix, ↓SD.ev_slice, ↓SD.ev_part1, ↓SD.ev_part0, ↓SD.ev_call, ↓SD.ev_callV, ↓SD.ev_app, ↓SD.ev_gVar, ↓SD.ev_gTup, ↓SD.ev_gIx, ↓SD.ev_iE, ↓SD.ev_iRange1, ↓SD.ev_iRange2, ↓SD.ev_iZip, ↓SD.ev_comp, ↓SD.ev_tupC, ↓SD.ev_allC, ↓SD.ev_anyC, ↓SD.ev_cComp, ↓SD.eList, ↓SD.gSeq, ↓SD.look_zero, ↓SD.look_succ, ↓SD.isa_non, ↓SD.isa_bl, ↓SD.isa_int, ↓SD.isa_str, ↓SD.isa_tup, ↓SD.isa_lref, ↓SD.ite_tt, ↓SD.ite_ff, SD.add_1, SD.add_2, SD.add_3, SD.add_4, SD.sub_1, SD.sub_2, SD.mul_1, SD.mul_2, SD.fdiv_1, SD.mod_1, SD.pow_1, SD.neg_1, SD.tr_non, SD.tr_bl, SD.tr_int, SD.tr_str, SD.tr_tup, SD.tr_lref, SD.lt_1, SD.le_1, SD.is_1, SD.is_2, SD.is_3, SD.is_4, SD.is_5, SD.is_6, SD.is_7, SD.cmp_eq, SD.cmp_ne, SD.cmp_lt, SD.cmp_le, SD.cmp_gt, SD.cmp_ge, SD.cmp_is, SD.cmp_isnot, SD.cmp_in, SD.cmp_notin, SD.eqk_int, SD.eqk_bl, SD.ix_tup, SD.ix_lref, SD.len_tup, SD.len_lref, SD.len_str, SD.abs_int, SD.int_int, SD.int_bl, SD.tuple_tup, SD.tuple_lref, SD.list_tup, SD.list_lref, SD.witer_tup, SD.witer_lref, SD.wzip_tup, SD.wipe_nil, SD.wipe_cons, SD.tru_nil, SD.tru_bl, SD.dE, SD.pairs, SD.allD, SD.anyD, SD.atI_0, SD.atI_1, SD.atI_2, SD.atI_3, SD.isa_NoneType_int, SD.isa_NoneType_bool, SD.isa_NoneType_str, SD.isa_NoneType_tuple, SD.isa_NoneType_list, SD.isa_bool_int, SD.isa_bool_bool, SD.isa_bool_str, SD.isa_bool_tuple, SD.isa_bool_list, SD.isa_int_int, SD.isa_int_bool, SD.isa_int_str, SD.isa_int_tuple, SD.isa_int_list, SD.isa_str_int, SD.isa_str_bool, SD.isa_str_str, SD.isa_str_tuple, SD.isa_str_list, SD.isa_tuple_int, SD.isa_tuple_bool, SD.isa_tuple_str, SD.isa_tuple_tuple, SD.isa_tuple_list, SD.isa_list_int, SD.isa_list_bool, SD.isa_list_str, SD.isa_list_tuple, SD.isa_list_list, List.length_cons, List.length_nil, List.map_cons, List.map_nil, List.set_cons_zero, List.set_cons_succ, List.replicate_succ, List.replicate_zero, List.cons_append, List.nil_append, List.zipWith_cons_cons, List.zipWith_nil_left, Nat.add_sub_cancel, Nat.reduceAdd, Nat.reduceSub, Nat.zero_add, Nat.sub_self, and_true, true_and, reduceCtorEq, if_true, if_false, ite_true, ite_false, Bool.false_eq_true, Bool.not_true, Bool.not_false, decide_eq_true_eq, SD.forLoop, SD.compLoop, h2, sp_is_fraction, h4])
            exact trQ_self rfl h5
      · rw [isSmall_len hn] at h5
        ((try simp only [SD.startD, List.length_cons, List.length_nil, List.map_cons, List.map_nil, List.replicate_succ, List.replicate_zero, List.cons_append, List.nil_append, Nat.reduceAdd, Nat.reduceSub, Nat.zero_add]); simp only [↓SD.ev_nil, ↓SD.ev_seq, ↓SD.ev_next, ↓SD.ev_break, ↓SD.ev_cont, ↓SD.ev_expr, ↓SD.ev_ret, ↓SD.ev_retN, ↓SD.ev_asg, ↓SD.ev_aug, ↓SD.ev_if, ↓SD.ev_for, ↓SD.ev_raise, ↓SD.ev_try, ↓SD.ev_var, ↓SD.ev_c, ↓SD.ev_glob, ↓SD.ev_tup, ↓SD.ev_lst, ↓SD.ev_bin, ↓SD.ev_un, ↓SD.ev_b1, ↓SD.ev_tE, ↓SD.ev_tNot, ↓SD.ev_tAnd, ↓SD.ev_tOr, ↓SD.ev_tYes, ↓SD.ev_not, ↓SD.ev_and, ↓SD.ev_or, ↓SD.ev_ifE, ↓SD.ev_cmp, ↓SD.ev_chain, ↓SD.ev_ix, ↓SD.ev_slice, ↓SD.ev_part1, ↓SD.ev_part0, ↓SD.ev_call, ↓SD.ev_callV, ↓SD.ev_app, ↓SD.ev_gVar, ↓SD.ev_gTup, ↓SD.ev_gIx, ↓SD.ev_iE, ↓SD.ev_iRange1, ↓SD.ev_iRange2, ↓SD.ev_iZip, ↓SD.ev_comp, ↓SD.ev_tupC, ↓SD.ev_allC, ↓SD.ev_anyC, ↓SD.ev_cComp, ↓SD.eList, ↓SD.gSeq, ↓SD.look_zero, ↓SD.look_succ, ↓SD.isa_non, ↓SD.isa_bl, ↓SD.isa_int, ↓SD.isa_str, ↓SD.isa_tup, ↓SD.isa_lref, ↓SD.ite_tt, ↓SD.ite_ff, SD.add_1, SD.add_2, SD.add_3, SD.add_4, SD.sub_1, SD.sub_2, SD.mul_1, SD.mul_2, SD.fdiv_1, SD.mod_1, SD.pow_1, SD.neg_1, SD.tr_non, SD.tr_bl, SD.tr_int, SD.tr_str, SD.tr_tup, SD.tr_lref, SD.lt_1, SD.le_1, SD.is_1, SD.is_2, SD.is_3, SD.is_4, SD.is_5, SD.is_6, SD.is_7, SD.cmp_eq, SD.cmp_ne, SD.cmp_lt, SD.cmp_le, SD.cmp_gt, SD.cmp_ge, SD.cmp_is, SD.cmp_isnot, SD.cmp_in, SD.cmp_notin, SD.eqk_int, SD.eqk_bl, SD.ix_tup, SD.ix_lref, SD.len_tup, SD.len_lref, SD.len_str, SD.abs_int, SD.int_int, SD.int_bl, SD.tuple_tup, SD.tuple_lref, SD.list_tup, SD.list_lref, SD.witer_tup, SD.witer_lref, SD.wzip_tup, SD.wipe_nil, SD.wipe_cons, SD.tru_nil, SD.tru_bl, SD.dE, SD.pairs, SD.allD, SD.anyD, SD.atI_0, SD.atI_1, SD.atI_2, SD.atI_3, SD.isa_NoneType_int, SD.isa_NoneType_bool, SD.isa_NoneType_str, SD.isa_NoneType_tuple, SD.isa_NoneType_list, SD.isa_bool_int, SD.isa_bool_bool, SD.isa_bool_str, SD.isa_bool_tuple, SD.isa_bool_list, SD.isa_int_int, SD.isa_int_bool, SD.isa_int_str, SD.isa_int_tuple, SD.isa_int_list, SD.isa_str_int, SD.isa_str_bool, SD.isa_str_str, SD.isa_str_tuple, SD.isa_str_list, SD.isa_tuple_int, SD.isa_tuple_bool, SD.isa_tuple_str, SD.isa_tuple_tuple, SD.isa_tuple_list, SD.isa_list_int, SD.isa_list_bool, SD.isa_list_str, SD.isa_list_tuple, SD.isa_list_list, List.length_cons, List.length_nil, List.map_cons, List.map_nil, List.set_cons_zero, List.set_cons_succ, List.replicate_succ, List.replicate_zero, List.cons_append, List.nil_append, List.zipWith_cons_cons, List.zipWith_nil_left, Nat.add_sub_cancel, Nat.reduceAdd, Nat.reduceSub, Nat.zero_add, Nat.sub_self, and_true, true_and, reduceCtorEq, if_true, if_false, ite_true, ite_false, Bool.false_eq_true, Bool.not_true, Bool.not_false, decide_eq_true_eq, SD.forLoop, SD.compLoop, eqk_int])
        have e : decide ((xs.length : Int) = 2) = false := decide_eq_false (by omega)
        simp only [e]
        try ((try simp only [SD.startD, List.length_cons, List.length_nil, List.map_cons, List.map_nil, List.replicate_succ, List.replicate_zero, List.cons_append, List.nil_append, Nat.reduceAdd, Nat.reduceSub, Nat.zero_add]); simp only [↓SD.ev_nil, ↓SD.ev_seq, ↓SD.ev_next, ↓SD.ev_break, ↓SD.ev_cont, ↓SD.ev_expr, ↓SD.ev_ret, ↓SD.ev_retN, ↓SD.ev_asg, ↓SD.ev_aug, ↓SD.ev_if, ↓SD.ev_for, ↓SD.ev_raise, ↓SD.ev_try, ↓SD.ev_var, ↓SD.ev_c, ↓SD.ev_glob, ↓SD.ev_tup, ↓SD.ev_lst, ↓SD.ev_bin, ↓SD.ev_un, ↓SD.ev_b1, ↓SD.ev_tE, ↓SD.ev_tNot, ↓SD.ev_tAnd, ↓SD.ev_tOr, ↓SD.ev_tYes, ↓SD.ev_not, ↓SD.ev_and, ↓SD.ev_or, ↓SD.ev_ifE, ↓SD.ev_cmp, ↓SD.ev_chain, ↓SD.ev_ix, ↓SD.ev_slice, ↓SD.ev_part1, ↓SD.ev_part0, ↓SD.ev_call, ↓SD.ev_callV, ↓SD.ev_app, ↓SD.ev_gVar, ↓SD.ev_gTup, ↓SD.ev_gIx, ↓SD.ev_iE, ↓SD.ev_iRange1, ↓SD.ev_iRange2, ↓SD.ev_iZip, ↓SD.ev_comp, ↓SD.ev_tupC, ↓SD.ev_allC, ↓SD.ev_anyC, ↓SD.ev_cComp, ↓SD.eList, ↓SD.gSeq, ↓SD.look_zero, ↓SD.look_succ, ↓SD.isa_non, ↓SD.isa_bl, ↓SD.isa_int, ↓SD.isa_str, ↓SD.isa_tup, ↓SD.isa_lref, ↓SD.ite_tt, ↓SD.ite_ff, SD.add_1, SD.add_2, SD.add_3, SD.add_4, SD.sub_1, SD.sub_2, SD.mul_1, SD.mul_2, SD.fdiv_1, SD.mod_1, SD.pow_1, SD.neg_1, SD.tr_non, SD.tr_bl, SD.tr_int, SD.tr_str, SD.tr_tup, SD.tr_lref, SD.lt_1, SD.le_1, SD.is_1, SD.is_2, SD.is_3, SD.is_4, SD.is_5, SD.is_6, SD.is_7, SD.cmp_eq, SD.cmp_ne, SD.cmp_lt, SD.cmp_le, SD.cmp_gt, SD.cmp_ge, SD.cmp_is, SD.cmp_isnot, SD.cmp_in, SD.cmp_notin, SD.eqk_int, SD.eqk_bl, SD.ix_tup, SD.ix_lref, SD.len_tup, SD.len_lref, SD.len_str, SD.abs_int, SD.int_int, SD.int_bl, SD.tuple_tup, SD.tuple_lref, SD.list_tup, SD.list_lref, SD.witer_tup, SD.witer_lref, SD.wzip_tup, SD.wipe_nil, SD.wipe_cons, SD.tru_nil, SD.tru_bl, SD.dE, SD.pairs, SD.allD, SD.anyD, SD.atI_0, SD.atI_1, SD.atI_2, SD.atI_3, SD.isa_NoneType_int, SD.isa_NoneType_bool, SD.isa_NoneType_str, SD.isa_NoneType_tuple, SD.isa_NoneType_list, SD.isa_bool_int, SD.isa_bool_bool, SD.isa_bool_str, SD.isa_bool_tuple, SD.isa_bool_list, SD.isa_int_int, SD.isa_int_bool, SD.isa_int_str, SD.isa_int_tuple, SD.isa_int_list, SD.isa_str_int, SD.isa_str_bool, SD.isa_str_str, SD.isa_str_tuple, SD.isa_str_list, SD.isa_tuple_int, SD.isa_tuple_bool, SD.isa_tuple_str, SD.isa_tuple_tuple, SD.isa_tuple_list, SD.isa_list_int, SD.isa_list_bool, SD.isa_list_str, SD.isa_list_tuple, SD.isa_list_list, List.length_cons, List.length_nil, List.map_cons, List.map_nil, List.set_cons_zero, List.set_cons_succ, List.replicate_succ, List.replicate_zero, List.cons_append, List.nil_append, List.zipWith_cons_cons, List.zipWith_nil_left, Nat.add_sub_cancel, Nat.reduceAdd, Nat.reduceSub, Nat.zero_add, Nat.sub_self, and_true, true_and, reduceCtorEq, if_true, if_false, ite_true, ite_false, Bool.false_eq_true, Bool.not_true, Bool.not_false, decide_eq_true_eq, SD.forLoop, SD.compLoop])
        exact trQ_self rfl h5
    all_goals first
      | (cases h4; done)
      | (((try simp only [SD.startD, List.length_cons, List.length_nil, List.map_cons, List.map_nil, List.replicate_succ, List.replicate_zero, List.cons_append, List.nil_append, Nat.reduceAdd, Nat.reduceSub, Nat.zero_add]); simp only [↓SD.ev_nil, ↓SD.ev_seq, ↓SD.ev_next, ↓SD.ev_break, ↓SD.ev_cont, ↓SD.ev_expr, ↓SD.ev_ret, ↓SD.ev_retN, ↓SD.ev_asg, ↓SD.ev_aug, ↓SD.ev_if, ↓SD.ev_for, ↓SD.ev_raise, ↓SD.ev_try, ↓SD.ev_var, ↓SD.ev_c, ↓SD.ev_glob, ↓SD.ev_tup, ↓SD.ev_lst, ↓SD.ev_bin, ↓SD.ev_un, ↓SD.ev_b1, ↓SD.ev_tE, ↓SD.ev_tNot, ↓SD.ev_tAnd, ↓SD.ev_tOr, ↓SD.ev_tYes, ↓SD.ev_not, ↓SD.ev_and, ↓SD.ev_or, ↓SD.ev_ifE, ↓SD.ev_cmp, ↓SD.ev_chain, ↓SD.ev_ix, ↓SD.ev_slice, ↓SD.ev_part1, ↓SD.ev_part0, ↓SD.ev_call, ↓SD.ev_callV, ↓SD.ev_app, ↓SD.ev_gVar, ↓SD.ev_gTup, ↓SD.ev_gIx, ↓SD.ev_iE, ↓SD.ev_iRange1, ↓SD.ev_iRange2, ↓SD.ev_iZip, ↓SD.ev_comp, ↓SD.ev_tupC, ↓SD.ev_allC, ↓SD.ev_anyC, ↓SD.ev_cComp, ↓SD.eList, ↓SD.gSeq, ↓SD.look_zero, ↓SD.look_succ, ↓SD.isa_non, ↓SD.isa_bl, ↓SD.isa_int, ↓SD.isa_str, ↓SD.isa_tup, ↓SD.isa_lref, ↓SD.ite_tt, ↓SD.ite_ff, SD.add_1, SD.add_2, SD.add_3, SD.add_4, SD.sub_1, SD.sub_2, SD.mul_1, SD.mul_2, SD.fdiv_1, SD.mod_1, SD.pow_1, SD.neg_1, SD.tr_non, SD.tr_bl, SD.tr_int, SD.tr_str, SD.tr_tup, SD.tr_lref, SD.lt_1, SD.le_1, SD.is_1, SD.is_2, SD.is_3, SD.is_4, SD.is_5, SD.is_6, SD.is_7, SD.cmp_eq, SD.cmp_ne, SD.cmp_lt, SD.cmp_le, SD.cmp_gt, SD.cmp_ge, SD.cmp_is, SD.cmp_isnot, SD.cmp_in, SD.cmp_notin, SD.eqk_int, SD.eqk_bl, SD.ix_tup, SD.ix_lref, SD.len_tup, SD.len_lref, SD.len_str, SD.abs_int, SD.int_int, SD.int_bl, SD.tuple_tup, SD.tuple_lref, SD.list_tup, SD.list_lref, SD.witer_tup, SD.witer_lref, SD.wzip_tup, SD.wipe_nil, SD.wipe_cons, SD.tru_nil, SD.tru_bl, SD.dE, SD.pairs, SD.allD, SD.anyD, SD.atI_0, SD.atI_1, SD.atI_2, SD.atI_3, SD.isa_NoneType_int, SD.isa_NoneType_bool, SD.isa_NoneType_str, SD.isa_NoneType_tuple, SD.isa_NoneType_list, SD.isa_bool_int, SD.isa_bool_bool, SD.isa_bool_str, SD.isa_bool_tuple, SD.isa_bool_list, SD.isa_int_int, SD.isa_int_bool, SD.isa_int_str, SD.isa_int_tuple, SD.isa_int_list, SD.isa_str_int, SD.isa_str_bool, SD.isa_str_str, SD.isa_str_tuple, SD.isa_str_list, SD.isa_tuple_int, SD.isa_tuple_bool, SD.isa_tuple_str, SD.isa_tuple_tuple, SD.isa_tuple_list, SD.isa_list_int, SD.isa_list_bool, SD.isa_list_str, SD.isa_list_tuple, SD.isa_list_list, List.length_cons, List.length_nil, List.map_cons, List.map_nil, List.set_cons_zero, List.set_cons_succ, List.replicate_succ, List.replicate_zero, List.cons_append, List.nil_append, List.zipWith_cons_cons, List.zipWith_nil_left, Nat.add_sub_cancel, Nat.reduceAdd, Nat.reduceSub, Nat.zero_add, Nat.sub_self, and_true, true_and, reduceCtorEq, if_true, if_false, ite_true, ite_false, Bool.false_eq_true, Bool.not_true, Bool.not_false, decide_eq_true_eq, SD.forLoop, SD.compLoop]); exact trQ_self rfl h5)
def argErr (r : Str) : Exn := ⟨"ArgumentError", [("reason", .str r)]⟩
def sp_demand_fraction : FnD := ⟨2, fun ds S E Q => match ds with
  | [d, .str r] => okT d = true ∧ if isSmall d = true then Q .non S else E (argErr r) S
  | _ => False⟩
theorem h_demand_fraction (T : Tab) (h1 : T.sp "is_small" = some sp_is_small) (h2 : T.exc "ArgumentError" = some [("reason" : Str)]) : Meets sp_demand_fraction N_demand_fraction (t_demand_fraction T) := by
  intro ds S E Q hl h
  unfold sp_demand_fraction at h
  unfold t_demand_fraction N_demand_fraction
  dsimp only at h
  split at h
  · rename_i d r
    obtain ⟨h3, h4⟩ := h
    ((try simp only [SD.startD, List.length_cons, List.length_nil, List.map_cons, List.map_nil, List.replicate_succ, List.replicate_zero, List.cons_append, List.nil_append, Nat.reduceAdd, Nat.reduceSub, Nat.zero_add]); simp only [↓SD.ev_nil, ↓SD.ev_seq, ↓SD.ev_next, ↓SD.ev_break, ↓SD.ev_cont, ↓SD.ev_expr, ↓SD.ev_ret, ↓SD.ev_retN, ↓SD.ev_asg, ↓SD.ev_aug, ↓SD.ev_if, ↓SD.ev_for, ↓SD.ev_raise, ↓SD.ev_try, ↓SD.ev_var, ↓SD.ev_c, ↓SD.ev_glob, ↓SD.ev_tup, ↓SD.ev_lst, ↓SD.ev_bin, ↓SD.ev_un, ↓SD.ev_b1, ↓SD.ev_tE, ↓SD.ev_tNot, ↓SD.ev_tAnd, ↓SD.ev_tOr, ↓SD.ev_tYes, ↓SD.ev_not, ↓SD.ev_and, ↓SD.ev_or, ↓SD.ev_ifE, ↓SD.ev_cmp, ↓SD.ev_chain, ↓SD.ev_ix, ↓SD.ev_slice, ↓SD.ev_part1, ↓SD.ev_part0, ↓SD.ev_call, ↓SD.ev_callV, ↓SD.ev_app, ↓SD.ev_gVar, ↓SD.ev_gTup, ↓SD.ev_gIx, ↓SD.ev_iE, ↓SD.ev_iRange1, ↓SD.ev_iRange2, ↓SD.ev_iZip, ↓SD.ev_comp, ↓SD.ev_tupC, ↓SD.ev_allC, ↓SD.ev_anyC, ↓SD.ev_cComp, ↓SD.eList, ↓SD.gSeq, ↓SD.look_zero, ↓SD.look_succ, ↓SD.isa_non, ↓SD.isa_bl, ↓SD.isa_int, ↓SD.isa_str, ↓SD.isa_tup, ↓SD.isa_lref, ↓SD.ite_tt, ↓SD.ite_ff, SD.add_1, SD.add_2, SD.add_3, SD.add_4, SD.sub_1, SD.sub_2, SD.mul_1, SD.mul_2, SD.fdiv_1, SD.mod_1, SD.pow_1, SD.neg_1, SD.tr_non, SD.tr_bl, SD.tr_int, SD.tr_str, SD.tr_tup, SD.tr_lref, SD.lt_1, SD.le_1, SD.is_1, SD.is_2, SD.is_3, SD.is_4, SD.is_5, SD.is_6, SD.is_7, SD.cmp_eq, SD.cmp_ne, SD.cmp_lt, SD.cmp_le, SD.cmp_gt, SD.cmp_ge, SD.cmp_is, SD.cmp_isnot, SD.cmp_in, SD.cmp_notin, SD.eqk_int, SD.eqk_bl, SD.ix_tup, SD.ix_lref, SD.len_tup, SD.len_lref, SD.len_str, SD.abs_int, SD.int_int, SD.int_bl, SD.tuple_tup, SD.tuple_lref, SD.list_tup, SD.list_lref, SD.witer_tup, SD.witer_lref, SD.wzip_tup, SD.wipe_nil, SD.wipe_cons, SD.tru_nil, SD.tru_bl, SD.dE, SD.pairs, SD.allD, SD.anyD, SD.atI_0, SD.atI_1, SD.atI_2, SD.atI_3, SD.isa_NoneType_int, SD.isa_NoneType_bool, SD.isa_NoneType_str, SD.isa_NoneType_tuple, SD.isa_NoneType_list, SD.isa_bool_int, SD.isa_bool_bool, SD.isa_bool_str, SD.isa_bool_tuple, SD.isa_bool_list, SD.isa_int_int, SD.isa_int_bool, SD.isa_int_str, SD.isa_int_tuple, SD.isa_int_list, SD.isa_str_int, SD.isa_str_bool, SD.isa_str_str, SD.isa_str_tuple, SD.isa_str_list, SD.isa_tuple_int, SD.isa_tuple_bool, SD.isa_tuple_str, SD.isa_tuple_tuple, SD.isa_tuple_list, SD.isa_list_int, SD.isa_list_bool, SD.isa_list_str, SD.isa_list_tuple, SD.isa_list_list, List.length_cons, List.length_nil, List.map_cons, List.map_nil, List.set_cons_zero, List.set_cons_succ, List.replicate_succ, List.replicate_zero, List.cons_append, List.nil_append, List.zipWith_cons_cons, List.zipWith_nil_left, Nat.add_sub_cancel, Nat.reduceAdd, Nat.reduceSub, Nat.zero_add, Nat.sub_self, and_true, true_and, reduceCtorEq, if_true, if_false, ite_true, ite_false, Bool.false_eq_true, Bool.not_true, Bool.not_false, decide_eq_true_eq, SD.forLoop, SD.compLoop, h1, sp_is_small, h3])
    cases e : isSmall d with
    | true =>
      rw [e] at h4
      ((try simp only [SD.startD, List.length_cons, List.length_nil, List.map_cons, List.map_nil, List.replicate_succ, List.replicate_zero, List.cons_append, List.nil_append, Nat.reduceAdd, Nat.reduceSub, Nat.zero_add]); simp only [↓SD.ev_nil, ↓SD.ev_seq, ↓SD.ev_next, ↓SD.ev_break, ↓SD.ev_cont, ↓SD.ev_expr, ↓SD.ev_ret, ↓SD.ev_retN, ↓SD.ev_asg, ↓SD.ev_aug, ↓SD.ev_if, ↓SD.ev_for, ↓SD.ev_raise, ↓SD.ev_try, ↓SD.ev_var, ↓SD.ev_c, ↓SD.ev_glob, ↓SD.ev_tup, ↓SD.ev_lst, ↓SD.ev_bin, ↓SD.ev_un, ↓SD.ev_b1, ↓SD.ev_tE, ↓SD.ev_tNot, ↓SD.ev_tAnd, ↓SD.ev_tOr, ↓SD.ev_tYes, ↓SD.ev_not, ↓SD.ev_and, ↓SD.ev_or, ↓SD.ev_ifE, ↓SD.ev_cmp, ↓SD.ev_chain, ↓SD.ev_ix, ↓SD.ev_slice, ↓SD.ev_part1, ↓SD.ev_part0, ↓SD.ev_call, ↓SD.ev_callV, ↓SD.ev_app, ↓SD.ev_gVar, ↓SD.ev_gTup, ↓SD.ev_gIx, ↓SD.ev_iE, ↓SD.ev_iRange1, ↓SD.ev_iRange2, ↓SD.ev_iZip, ↓SD.ev_comp, ↓SD.ev_tupC, ↓SD.ev_allC, ↓SD.ev_anyC, ↓SD.ev_cComp, ↓SD.eList, ↓SD.gSeq, ↓SD.look_zero, ↓SD.look_succ, ↓SD.isa_non, ↓SD.isa_bl, ↓SD.isa_int, ↓SD.isa_str, ↓SD.isa_tup, ↓SD.isa_lref, ↓SD.ite_tt, ↓SD.ite_ff, SD.add_1, SD.add_2, SD.add_3, SD.add_4, SD.sub_1, SD.sub_2, SD.mul_1, SD.mul_2, SD.fdiv_1, SD.mod_1, SD.pow_1, SD.neg_1, SD.tr_non, SD.tr_bl, SD.tr_int, SD.tr_str, SD.tr_tup, SD.tr_lref, SD.lt_1, SD.le_1, SD.is_1, SD.is_2, SD.is_3, SD.is_4, SD.is_5, SD.is_6, SD.is_7, SD.cmp_eq, SD.cmp_ne, SD.cmp_lt, SD.cmp_le, SD.cmp_gt, SD.cmp_ge, SD.cmp_is, SD.cmp_isnot, SD.cmp_in, SD.cmp_notin, SD.eqk_int, SD.eqk_bl, SD.ix_tup, SD.ix_lref, SD.len_tup, SD.len_lref, SD.len_str, SD.abs_int, SD.int_int, SD.int_bl, SD.tuple_tup, SD.tuple_lref, SD.list_tup, SD.list_lref, SD.witer_tup, SD.witer_lref, SD.wzip_tup, SD.wipe_nil, SD.wipe_cons, SD.tru_nil, SD.tru_bl, SD.dE, SD.pairs, SD.allD, SD.anyD, SD.atI_0, SD.atI_1, SD.atI_2, SD.atI_3, SD.isa_NoneType_int, SD.isa_NoneType_bool, SD.isa_NoneType_str, SD.isa_NoneType_tuple, SD.isa_NoneType_list, SD.isa_bool_int, SD.isa_bool_bool, SD.isa_bool_str, SD.isa_bool_tuple, SD.isa_bool_list, SD.isa_int_int, SD.isa_int_bool, SD.isa_int_str, SD.isa_int_tuple, SD.isa_int_list, SD.isa_str_int, SD.isa_str_bool, SD.isa_str_str, SD.isa_str_tuple, SD.isa_str_list, SD.isa_tuple_int, SD.isa_tuple_bool, SD.isa_tuple_str, SD.isa_tuple_tuple, SD.isa_tuple_list, SD.isa_list_int, SD.isa_list_bool, SD.isa_list_str, SD.isa_list_tuple, SD.isa_list_list, List.length_cons, List.length_nil, List.map_cons, List.map_nil, List.set_cons_zero, List.set_cons_succ, List.replicate_succ, List.replicate_zero, List.cons_append, List.nil_append, List.zipWith_cons_cons, List.zipWith_nil_left, Nat.add_sub_cancel, Nat.reduceAdd, Nat.reduceSub, Nat.zero_add, Nat.sub_self, and_true, true_and, reduceCtorEq, if_true, if_false, ite_true, ite_false, Bool.false_eq_true, Bool.not_true, Bool.not_false, decide_eq_true_eq, SD.forLoop, SD.compLoop])
      exact trQ_self rfl h4
    | false =>
      rw [e] at h4
      ((try simp only [SD.startD, List.length_cons, List.length_nil, List.map_cons, List.map_nil, List.replicate_succ, List.replicate_zero, List.cons_append, List.nil_append, Nat.reduceAdd, Nat.reduceSub, Nat.zero_add]); simp only [↓SD.ev_nil, ↓SD.ev_seq, ↓SD.ev_next, ↓SD.ev_break, ↓SD.ev_cont, ↓SD.ev_expr, ↓SD.ev_ret, ↓SD.ev_retN, ↓SD.ev_asg, ↓SD.ev_aug, ↓SD.ev_if, ↓SD.ev_for, ↓SD.ev_raise, ↓SD.ev_try, ↓SD.ev_var, ↓SD.ev_c, ↓SD.ev_glob, ↓SD.ev_tup, ↓SD.ev_lst, ↓SD.ev_bin, ↓SD.ev_un, ↓SD.ev_b1, ↓SD.ev_tE, ↓SD.ev_tNot, ↓SD.ev_tAnd, ↓SD.ev_tOr, ↓SD.ev_tYes, ↓SD.ev_not, ↓SD.ev_and, ↓SD.ev_or, ↓SD.ev_ifE, ↓SD.ev_cmp, ↓SD.ev_chain, ↓SD.ev_ix, ↓SD.ev_slice, ↓SD.ev_part1, ↓SD.ev_part0, ↓SD.ev_call, ↓SD.ev_callV, ↓SD.ev_app, ↓SD.ev_gVar, ↓SD.ev_gTup, ↓SD.ev_gIx, ↓SD.ev_iE, ↓SD.ev_iRange1, ↓SD.ev_iRange2, ↓SD.ev_iZip, ↓SD.ev_comp, ↓SD.ev_tupC, ↓SD.ev_allC, ↓SD.ev_anyC, ↓SD.ev_cComp, ↓SD.eList, ↓SD.gSeq, ↓SD.look_zero, ↓SD.look_succ, ↓SD.isa_non, ↓SD.isa_bl, ↓SD.isa_int, ↓SD.isa_str, ↓SD.isa_tup, ↓SD.isa_lref, ↓SD.ite_tt, ↓SD.ite_ff, SD.add_1, SD.add_2, SD.add_3, SD.add_4, SD.sub_1, SD.sub_2, SD.mul_1, SD.mul_2, SD.fdiv_1, SD.mod_1, SD.pow_1, SD.neg_1, SD.tr_non, SD.tr_bl, SD.tr_int, SD.tr_str, SD.tr_tup, SD.tr_lref, SD.lt_1, SD.le_1, SD.is_1, SD.is_2, SD.is_3, SD.is_4, SD.is_5, SD.is_6, SD.is_7, SD.cmp_eq, SD.cmp_ne, SD.cmp_lt, SD.cmp_le, SD.cmp_gt, SD.cmp_ge, SD.cmp_is, SD.cmp_isnot, SD.cmp_in, SD.cmp_notin, SD.eqk_int, SD.eqk_bl, SD.ix_tup, SD.ix_lref, SD.len_tup, SD.len_lref, SD.len_str, SD.abs_int, SD.int_int, SD.int_bl, SD.tuple_tup, SD.tuple_lref, SD.list_tup, SD.list_lref, SD.witer_tup, SD.witer_lref, SD.wzip_tup, SD.wipe_nil, SD.wipe_cons, SD.tru_nil, SD.tru_bl, SD.dE, SD.pairs, SD.allD, SD.anyD, SD.atI_0, SD.atI_1, SD.atI_2, SD.atI_3, SD.isa_NoneType_int, SD.isa_NoneType_bool, SD.isa_NoneType_str, SD.isa_NoneType_tuple, SD.isa_NoneType_list, SD.isa_bool_int, SD.isa_bool_bool, SD.isa_bool_str, SD.isa_bool_tuple, SD.isa_bool_list, SD.isa_int_int, SD.isa_int_bool, SD.isa_int_str, SD.isa_int_tuple, SD.isa_int_list, SD.isa_str_int, SD.isa_str_bool, SD.isa_str_str, SD.isa_str_tuple, SD.isa_str_list, SD.isa_tuple_int, SD.isa_tuple_bool, SD.isa_tuple_str, SD.isa_tuple_tuple, SD.isa_tuple_list, SD.isa_list_int, SD.isa_list_bool, SD.isa_list_str, SD.isa_list_tuple, SD.isa_list_list, List.length_cons, List.length_nil, List.map_cons, List.map_nil, List.set_cons_zero, List.set_cons_succ, List.replicate_succ, List.replicate_zero, List.cons_append, List.nil_append, List.zipWith_cons_cons, List.zipWith_nil_left, Nat.add_sub_cancel, Nat.reduceAdd, Nat.reduceSub, Nat.zero_add, Nat.sub_self, and_true, true_and, reduceCtorEq, if_true, if_false, ite_true, ite_false, Bool.false_eq_true, Bool.not_true, Bool.not_false, decide_eq_true_eq, SD.forLoop, SD.compLoop, h2])
      exact trE_self rfl h4
  · exact h.elim
end SP

-- SPh
set_option Elab.async false
set_option linter.all false
set_option maxRecDepth 100000
set_option maxHeartbeats 1000000
namespace SP
open PySem L2 SD SL
theorem rat_add (a b : Rat) : Rat.divInt (a.num * (b.den : Int) + b.num * (a.den : Int)) ((a.den : Int) * (b.den : Int)) = a + b := by
  have h := Rat.divInt_add_divInt a.num b.num (d₁ := (a.den : Int)) (d₂ := (b.den : Int)) (by have := a.den_pos; omega) (by have := b.den_pos; omega)
  rw [Rat.num_divInt_den, Rat.num_divInt_den] at h
  exact h.symm
theorem rat_mul (a b : Rat) : Rat.divInt (a.num * b.num) ((a.den : Int) * (b.den : Int)) = a * b := by
  have h := Rat.divInt_mul_divInt a.num b.num (d₁ := (a.den : Int)) (d₂ := (b.den : Int))
  rw [Rat.num_divInt_den, Rat.num_divInt_den] at h
  exact h.symm
theorem rat_inv (a : Rat) : Rat.divInt (a.den : Int) a.num = a⁻¹ := by
  have h := Rat.inv_divInt a.num (a.den : Int)
  rw [Rat.num_divInt_den] at h
  exact h.symm
theorem den_ne (a : Rat) : (a.den : Int) ≠ 0 := by have := a.den_pos; omega
theorem B_of_divInt {n d : Int} {k : Nat} (hd : d ≠ 0) (h1 : n.natAbs < 2 ^ k) (h2 : d.natAbs < 2 ^ k) : B k (Rat.divInt n d) :=
  ⟨Nat.lt_of_le_of_lt (divInt_le hd).1 h1, Nat.lt_of_le_of_lt (divInt_le hd).2 h2⟩
theorem B_add {a b : Rat} {j k : Nat} (ha : B j a) (hb : B k b) : B (j + k + 1) (a + b) := by
  rw [← rat_add]
  refine B_of_divInt (Int.mul_ne_zero (den_ne a) (den_ne b)) ?_ ?_
  · have h1 : (a.num * (b.den : Int)).natAbs < 2 ^ (j + k) := by
      rw [Int.natAbs_mul, Nat.pow_add]
      exact Nat.mul_lt_mul'' ha.1 (by simpa using hb.2)
    have h2 : (b.num * (a.den : Int)).natAbs < 2 ^ (j + k) := by
      rw [Int.natAbs_mul, Nat.add_comm j k, Nat.pow_add]
      exact Nat.mul_lt_mul'' hb.1 (by simpa using ha.2)
    have h3 := Int.natAbs_add_le (a.num * (b.den : Int)) (b.num * (a.den : Int))
    rw [Nat.pow_succ]
    omega
  · rw [Int.natAbs_mul]
    have h1 : (a.den : Int).natAbs * (b.den : Int).natAbs < 2 ^ j * 2 ^ k := Nat.mul_lt_mul'' (by simpa using ha.2) (by simpa using hb.2)
    rw [← Nat.pow_add] at h1
    exact Nat.lt_of_lt_of_le h1 (Nat.pow_le_pow_right (by decide) (by omega))
theorem B_mul {a b : Rat} {j k : Nat} (ha : B j a) (hb : B k b) : B (j + k) (a * b) := by
  rw [← rat_mul]
  refine B_of_divInt (Int.mul_ne_zero (den_ne a) (den_ne b)) ?_ ?_
  · rw [Int.natAbs_mul, Nat.pow_add]
    exact Nat.mul_lt_mul'' ha.1 hb.1
  · rw [Int.natAbs_mul, Nat.pow_add]
    exact Nat.mul_lt_mul'' (by simpa using ha.2) (by simpa using hb.2)
theorem B_neg {a : Rat} {k : Nat} (h : B k a) : B k (-a) := ⟨by rw [Rat.neg_num, Int.natAbs_neg]; exact h.1, by rw [Rat.neg_den]; exact h.2⟩
theorem B_inv {a : Rat} {k : Nat} (hk : 0 < k) (h : B k a) : B k a⁻¹ := by
  by_cases h0 : a = 0
  · subst h0
    rw [Rat.inv_zero]
    exact h
  · rw [← rat_inv]
    exact B_of_divInt (fun z => h0 (Rat.num_eq_zero.mp z)) (by simpa using h.2) h.1
theorem B_int {n : Int} {k : Nat} (hk : 0 < k) (h : n.natAbs < 2 ^ k) : B k (n : Rat) := ⟨by simpa using h, by rw [Rat.den_intCast]; exact Nat.one_lt_two_pow (by omega)⟩
theorem B_sub {a b : Rat} {j k : Nat} (ha : B j a) (hb : B k b) : B (j + k + 1) (a - b) := by
  rw [Rat.sub_eq_add_neg]
  exact B_add ha (B_neg hb)
theorem mulOk_of {i j : Int} (h1 : i.natAbs < 2 ^ 8000) (h2 : j.natAbs < 2 ^ 8000) : mulOk i j := by
  have a := log2_lt_of h1 (by decide)
  have b := log2_lt_of h2 (by decide)
  unfold mulOk
  omega
theorem up8 {n j : Nat} (h : n < 2 ^ j) (l : j ≤ 8000) : n < 2 ^ 8000 := Nat.lt_of_lt_of_le h (Nat.pow_le_pow_right (by decide) l)
/-! ### operations on fractions -/
def spQ2 (pre : Rat → Rat → Prop) (r : Rat → Rat → D) : FnD := ⟨2, fun ds S _ Q => match ds with
  | [x, y] => (match toQ x, toQ y with
    | some a, some b => pre a b ∧ Q (r a b) S
    | _, _ => False)
  | _ => False⟩
def spQ1 (pre : Rat → Prop) (r : Rat → D) : FnD := ⟨1, fun ds S _ Q => match ds with
  | [x] => (match toQ x with
    | some a => pre a ∧ Q (r a) S
    | _ => False)
  | _ => False⟩
theorem spQ2_n {pre : Rat → Rat → Prop} {r : Rat → Rat → D} : (spQ2 pre r).n = 2 := rfl
theorem spQ1_n {pre : Rat → Prop} {r : Rat → D} : (spQ1 pre r).n = 1 := rfl
theorem spQ2_fr {pre : Rat → Rat → Prop} {r : Rat → Rat → D} {a b : Rat} {S : Store} {E : QX} {Q : QV} : (spQ2 pre r).sp [fr a, fr b] S E Q = (pre a b ∧ Q (r a b) S) := by
  show (match toQ (fr a), toQ (fr b) with
    | some a, some b => pre a b ∧ Q (r a b) S
    | _, _ => False) = _
  rw [toQ_fr, toQ_fr]
theorem spQ1_fr {pre : Rat → Prop} {r : Rat → D} {a : Rat} {S : Store} {E : QX} {Q : QV} : (spQ1 pre r).sp [fr a] S E Q = (pre a ∧ Q (r a) S) := by
  show (match toQ (fr a) with
    | some a => pre a ∧ Q (r a) S
    | _ => False) = _
  rw [toQ_fr]
theorem q2_in {pre : Rat → Rat → Prop} {r : Rat → Rat → D} {N : List Str} {t : SS} (h : ∀ a b S E Q, pre a b → Q (r a b) S → t (dE S E Q) (startD N [fr a, fr b]) S) : Meets (spQ2 pre r) N t := by
  intro ds S E Q hl hq
  match ds, hl, hq with
  | [x, y], _, hq =>
    have hq' : (match toQ x, toQ y with
      | some a, some b => pre a b ∧ Q (r a b) S
      | _, _ => False) := hq
    cases e1 : toQ x with
    | none => rw [e1] at hq'; exact hq'.elim
    | some a =>
      cases e2 : toQ y with
      | none => rw [e1, e2] at hq'; exact hq'.elim
      | some b =>
        rw [e1, e2] at hq'
        rw [fr_of_toQ e1, fr_of_toQ e2]
        exact h a b S E Q hq'.1 hq'.2
theorem q1_in {pre : Rat → Prop} {r : Rat → D} {N : List Str} {t : SS} (h : ∀ a S E Q, pre a → Q (r a) S → t (dE S E Q) (startD N [fr a]) S) : Meets (spQ1 pre r) N t := by
  intro ds S E Q hl hq
  match ds, hl, hq with
  | [x], _, hq =>
    have hq' : (match toQ x with
      | some a => pre a ∧ Q (r a) S
      | _ => False) := hq
    cases e1 : toQ x with
    | none => rw [e1] at hq'; exact hq'.elim
    | some a =>
      rw [e1] at hq'
      rw [fr_of_toQ e1]
      exact h a S E Q hq'.1 hq'.2
theorem cl_fr {n : Nat} {q : Rat} : clD n (fr q) = true := rfl
theorem ix_fr0 {q : Rat} {S : Store} {Q : QV} : ixD (fr q) (.int 0) S Q = Q (.int q.num) S := by unfold fr; ((try simp only [SD.startD, List.length_cons, List.length_nil, List.map_cons, List.map_nil, List.replicate_succ, List.replicate_zero, List.cons_append, List.nil_append, Nat.reduceAdd, Nat.reduceSub, Nat.zero_add]); simp only [↓SD.ev_nil, ↓SD.ev_seq, ↓SD.ev_next, ↓SD.ev_break, ↓SD.ev_cont, ↓SD.ev_expr, ↓SD.ev_ret, ↓SD.ev_retN, ↓SD.ev_asg, ↓SD.ev_aug, ↓SD.ev_if, ↓SD.ev_for, ↓SD.ev_raise, ↓SD.ev_try, ↓SD.ev_var, ↓SD.ev_c, ↓SD.ev_glob, ↓SD.ev_tup, ↓SD.ev_lst, ↓SD.ev_bin, ↓SD.ev_un, ↓SD.ev_b1, ↓SD.ev_tE, ↓SD.ev_tNot, ↓SD.ev_tAnd, ↓SD.ev_tOr, ↓SD.ev_tYes, ↓SD.ev_not, ↓SD.ev_and, ↓SD.ev_or, ↓SD.ev_ifE, ↓SD.ev_cmp, ↓SD.ev_chain, ↓SD.ev_ix, ↓SD.ev_slice, ↓SD.ev_part1, ↓SD.ev_part0, ↓SD.ev_call, ↓SD.ev_callV, ↓SD.ev_app, ↓SD.ev_gVar, ↓SD.ev_gTup, ↓SD.ev_gIx, ↓SD.ev_iE, ↓SD.ev_iRange1, ↓SD.ev_iRange2, ↓SD.ev_iZip, ↓SD.ev_comp, ↓SD.ev_tupC, ↓SD.ev_allC, ↓SD.ev_anyC, ↓SD.ev_cComp, ↓SD.eList, ↓SD.gSeq, ↓SD.look_zero, ↓SD.look_succ, ↓SD.isa_non, ↓SD.isa_bl, ↓SD.isa_int, ↓SD.isa_str, ↓SD.isa_tup, ↓SD.isa_lref, ↓SD.ite_tt, ↓SD.ite_ff, SD.add_1, SD.add_2, SD.add_3, SD.add_4, SD.sub_1, SD.sub_2, SD.mul_1, SD.mul_2, SD.fdiv_1, SD.mod_1, SD.pow_1, SD.neg_1, SD.tr_non, SD.tr_bl, SD.tr_int, SD.tr_str, SD.tr_tup, SD.tr_lref, SD.lt_1, SD.le_1, SD.is_1, SD.is_2, SD.is_3, SD.is_4, SD.is_5, SD.is_6, SD.is_7, SD.cmp_eq, SD.cmp_ne, SD.cmp_lt, SD.cmp_le, SD.cmp_gt, SD.cmp_ge, SD.cmp_is, SD.cmp_isnot, SD.cmp_in, SD.cmp_notin, SD.eqk_int, SD.eqk_bl, SD.ix_tup, SD.ix_lref, SD.len_tup, SD.len_lref, SD.len_str, SD.abs_int, SD.int_int, SD.int_bl, SD.tuple_tup, SD.tuple_lref, SD.list_tup, SD.list_lref, SD.witer_tup, SD.witer_lref, SD.wzip_tup, SD.wipe_nil, SD.wipe_cons, SD.tru_nil, SD.tru_bl, SD.dE, SD.pairs, SD.allD, SD.anyD, SD.atI_0, SD.atI_1, SD.atI_2, SD.atI_3, SD.isa_NoneType_int, SD.isa_NoneType_bool, SD.isa_NoneType_str, SD.isa_NoneType_tuple, SD.isa_NoneType_list, SD.isa_bool_int, SD.isa_bool_bool, SD.isa_bool_str, SD.isa_bool_tuple, SD.isa_bool_list, SD.isa_int_int, SD.isa_int_bool, SD.isa_int_str, SD.isa_int_tuple, SD.isa_int_list, SD.isa_str_int, SD.isa_str_bool, SD.isa_str_str, SD.isa_str_tuple, SD.isa_str_list, SD.isa_tuple_int, SD.isa_tuple_bool, SD.isa_tuple_str, SD.isa_tuple_tuple, SD.isa_tuple_list, SD.isa_list_int, SD.isa_list_bool, SD.isa_list_str, SD.isa_list_tuple, SD.isa_list_list, List.length_cons, List.length_nil, List.map_cons, List.map_nil, List.set_cons_zero, List.set_cons_succ, List.replicate_succ, List.replicate_zero, List.cons_append, List.nil_append, List.zipWith_cons_cons, List.zipWith_nil_left, Nat.add_sub_cancel, Nat.reduceAdd, Nat.reduceSub, Nat.zero_add, Nat.sub_self, and_true, true_and, reduceCtorEq, if_true, if_false, ite_true, ite_false, Bool.false_eq_true, Bool.not_true, Bool.not_false, decide_eq_true_eq, SD.forLoop, SD.compLoop])
theorem ix_fr1 {q : Rat} {S : Store} {Q : QV} : ixD (fr q) (.int 1) S Q = Q (.int (q.den : Int)) S := by unfold fr; ((try simp only [SD.startD, List.length_cons, List.length_nil, List.map_cons, List.map_nil, List.replicate_succ, List.replicate_zero, List.cons_append, List.nil_append, Nat.reduceAdd, Nat.reduceSub, Nat.zero_add]); simp only [↓SD.ev_nil, ↓SD.ev_seq, ↓SD.ev_next, ↓SD.ev_break, ↓SD.ev_cont, ↓SD.ev_expr, ↓SD.ev_ret, ↓SD.ev_retN, ↓SD.ev_asg, ↓SD.ev_aug, ↓SD.ev_if, ↓SD.ev_for, ↓SD.ev_raise, ↓SD.ev_try, ↓SD.ev_var, ↓SD.ev_c, ↓SD.ev_glob, ↓SD.ev_tup, ↓SD.ev_lst, ↓SD.ev_bin, ↓SD.ev_un, ↓SD.ev_b1, ↓SD.ev_tE, ↓SD.ev_tNot, ↓SD.ev_tAnd, ↓SD.ev_tOr, ↓SD.ev_tYes, ↓SD.ev_not, ↓SD.ev_and, ↓SD.ev_or, ↓SD.ev_ifE, ↓SD.ev_cmp, ↓SD.ev_chain, ↓SD.ev_ix, ↓SD.ev_slice, ↓SD.ev_part1, ↓SD.ev_part0, ↓SD.ev_call, ↓SD.ev_callV, ↓SD.ev_app, ↓SD.ev_gVar, ↓SD.ev_gTup, ↓SD.ev_gIx, ↓SD.ev_iE, ↓SD.ev_iRange1, ↓SD.ev_iRange2, ↓SD.ev_iZip, ↓SD.ev_comp, ↓SD.ev_tupC, ↓SD.ev_allC, ↓SD.ev_anyC, ↓SD.ev_cComp, ↓SD.eList, ↓SD.gSeq, ↓SD.look_zero, ↓SD.look_succ, ↓SD.isa_non, ↓SD.isa_bl, ↓SD.isa_int, ↓SD.isa_str, ↓SD.isa_tup, ↓SD.isa_lref, ↓SD.ite_tt, ↓SD.ite_ff, SD.add_1, SD.add_2, SD.add_3, SD.add_4, SD.sub_1, SD.sub_2, SD.mul_1, SD.mul_2, SD.fdiv_1, SD.mod_1, SD.pow_1, SD.neg_1, SD.tr_non, SD.tr_bl, SD.tr_int, SD.tr_str, SD.tr_tup, SD.tr_lref, SD.lt_1, SD.le_1, SD.is_1, SD.is_2, SD.is_3, SD.is_4, SD.is_5, SD.is_6, SD.is_7, SD.cmp_eq, SD.cmp_ne, SD.cmp_lt, SD.cmp_le, SD.cmp_gt, SD.cmp_ge, SD.cmp_is, SD.cmp_isnot, SD.cmp_in, SD.cmp_notin, SD.eqk_int, SD.eqk_bl, SD.ix_tup, SD.ix_lref, SD.len_tup, SD.len_lref, SD.len_str, SD.abs_int, SD.int_int, SD.int_bl, SD.tuple_tup, SD.tuple_lref, SD.list_tup, SD.list_lref, SD.witer_tup, SD.witer_lref, SD.wzip_tup, SD.wipe_nil, SD.wipe_cons, SD.tru_nil, SD.tru_bl, SD.dE, SD.pairs, SD.allD, SD.anyD, SD.atI_0, SD.atI_1, SD.atI_2, SD.atI_3, SD.isa_NoneType_int, SD.isa_NoneType_bool, SD.isa_NoneType_str, SD.isa_NoneType_tuple, SD.isa_NoneType_list, SD.isa_bool_int, SD.isa_bool_bool, SD.isa_bool_str, SD.isa_bool_tuple, SD.isa_bool_list, SD.isa_int_int, SD.isa_int_bool, SD.isa_int_str, SD.isa_int_tuple, SD.isa_int_list, SD.isa_str_int, SD.isa_str_bool, SD.isa_str_str, SD.isa_str_tuple, SD.isa_str_list, SD.isa_tuple_int, SD.isa_tuple_bool, SD.isa_tuple_str, SD.isa_tuple_tuple, SD.isa_tuple_list, SD.isa_list_int, SD.isa_list_bool, SD.isa_list_str, SD.isa_list_tuple, SD.isa_list_list, List.length_cons, List.length_nil, List.map_cons, List.map_nil, List.set_cons_zero, List.set_cons_succ, List.replicate_succ, List.replicate_zero, List.cons_append, List.nil_append, List.zipWith_cons_cons, List.zipWith_nil_left, Nat.add_sub_cancel, Nat.reduceAdd, Nat.reduceSub, Nat.zero_add, Nat.sub_self, and_true, true_and, reduceCtorEq, if_true, if_false, ite_true, ite_false, Bool.false_eq_true, Bool.not_true, Bool.not_false, decide_eq_true_eq, SD.forLoop, SD.compLoop])
/-- what may be reckoned with -/
def Sm (q : Rat) : Prop := B 3900 q
def sp_added : FnD := spQ2 (fun a b => Sm a ∧ Sm b) fun a b => fr (a + b)
def sp_multiplied : FnD := spQ2 (fun a b => Sm a ∧ Sm b) fun a b => fr (a * b)
def sp_negated : FnD := spQ1 (fun _ => True) fun a => fr (-a)
def sp_turned : FnD := spQ1 (fun a => a ≠ 0 ∧ Sm a) fun a => fr a⁻¹
def sgn (q : Rat) : Int := q.num.sign
theorem sm1 {a b : Int} {k : Nat} (ha : a.natAbs < 2 ^ 3900) (hb : b.natAbs < 2 ^ 3900) : (a * b).natAbs < 2 ^ 7800 := by
  rw [Int.natAbs_mul, show 7800 = 3900 + 3900 from rfl, Nat.pow_add]
  exact Nat.mul_lt_mul'' ha hb
theorem den_nat (a : Rat) : (a.den : Int).natAbs = a.den := by simp
theorem h_added (T : Tab) (h1 : T.sp "made" = some sp_made) : Meets sp_added N_added (t_added T) := by
  refine q2_in fun a b S E Q ⟨ha, hb⟩ h => ?_
  unfold t_added N_added
  have d1 : (a.den : Int).natAbs < 2 ^ 3900 := by rw [den_nat]; exact ha.2
  have d2 : (b.den : Int).natAbs < 2 ^ 3900 := by rw [den_nat]; exact hb.2
  have u : ∀ {n : Nat}, n < 2 ^ 3900 → n < 2 ^ 8000 := fun h => up8 h (by decide)
  ((try simp only [SD.startD, List.length_cons, List.length_nil, List.map_cons, List.map_nil, List.replicate_succ, List.replicate_zero, List.cons_append, List.nil_append, Nat.reduceAdd, Nat.reduceSub, Nat.zero_add]); simp only [↓SD.ev_nil, ↓SD.ev_seq, ↓SD.ev_next, ↓SD.ev_break, ↓SD.ev_cont, ↓SD.ev_expr, ↓SD.ev_ret, ↓SD.ev_retN, ↓SD.ev_asg, ↓SD.ev_aug, ↓SD.ev_if, ↓SD.ev_for, ↓SD.ev_raise, ↓SD.ev_try, ↓SD.ev_var, ↓SD.ev_c, ↓SD.ev_glob, ↓SD.ev_tup, ↓SD.ev_lst, ↓SD.ev_bin, ↓SD.ev_un, ↓SD.ev_b1, ↓SD.ev_tE, ↓SD.ev_tNot, ↓SD.ev_tAnd, ↓SD.ev_tOr, ↓SD.ev_tYes, ↓SD.ev_not, ↓SD.ev_and, ↓SD.ev_or, ↓SD.ev_ifE, ↓SD.ev_cmp, ↓SD.ev_chain, ↓SD.ev_ix, ↓SD.ev_slice, ↓SD.ev_part1, ↓SD.ev_part0, ↓SD.ev_call, ↓SD.ev_callV, ↓SD.ev_app, ↓SD.ev_gVar, ↓SD.ev_gTup, ↓SD.ev_gIx, ↓SD.ev_iE, ↓SD.ev_iRange1, ↓SD.ev_iRange2, ↓SD.ev_iZip, ↓SD.ev_comp, ↓SD.ev_tupC, ↓SD.ev_allC, ↓SD.ev_anyC, ↓SD.ev_cComp, ↓SD.eList, ↓SD.gSeq, ↓SD.look_zero, ↓SD.look_succ, ↓SD.isa_non, ↓SD.isa_bl, ↓SD.isa_int, ↓SD.isa_str, ↓SD.isa_tup, ↓SD.isa_lref, ↓SD.ite_tt, ↓SD.ite_ff, SD.add_1, SD.add_2, SD.add_3, SD.add_4, SD.sub_1, SD.sub_2, SD.mul_1, SD.mul_2, SD.fdiv_1, SD.mod_1, SD.pow_1, SD.neg_1, SD.tr_non, SD.tr_bl, SD.tr_int, SD.tr_str, SD.tr_tup, SD.tr_lref, SD.lt_1, SD.le_1, SD.is_1, SD.is_2, SD.is_3, SD.is_4, SD.is_5, SD.is_6, SD.is_7, SD.cmp_eq, SD.cmp_ne, SD.cmp_lt, SD.cmp_le, SD.cmp_gt, SD.cmp_ge, SD.cmp_is, SD.cmp_isnot, SD.cmp_in, SD.cmp_notin, SD.eqk_int, SD.eqk_bl, SD.ix_tup, SD.ix_lref, SD.len_tup, SD.len_lref, SD.len_str, SD.abs_int, SD.int_int, SD.int_bl, SD.tuple_tup, SD.tuple_lref, SD.list_tup, SD.list_lref, SD.witer_tup, SD.witer_lref, SD.wzip_tup, SD.wipe_nil, SD.wipe_cons, SD.tru_nil, SD.tru_bl, SD.dE, SD.pairs, SD.allD, SD.anyD, SD.atI_0, SD.atI_1, SD.atI_2, SD.atI_3, SD.isa_NoneType_int, SD.isa_NoneType_bool, SD.isa_NoneType_str, SD.isa_NoneType_tuple, SD.isa_NoneType_list, SD.isa_bool_int, SD.isa_bool_bool, SD.isa_bool_str, SD.isa_bool_tuple, SD.isa_bool_list, SD.isa_int_int, SD.isa_int_bool, SD.isa_int_str, SD.isa_int_tuple, SD.isa_int_list, SD.isa_str_int, SD.isa_str_bool, SD.isa_str_str, SD.isa_str_tuple, SD.isa_str_list, SD.isa_tuple_int, SD.isa_tuple_bool, SD.isa_tuple_str, SD.isa_tuple_tuple, SD.isa_tuple_list, SD.isa_list_int, SD.isa_list_bool, SD.isa_list_str, SD.isa_list_tuple, SD.isa_list_list, List.length_cons, List.length_nil, List.map_cons, List.map_nil, List.set_cons_zero, List.set_cons_succ, List.replicate_succ, List.replicate_zero, List.cons_append, List.nil_append, List.zipWith_cons_cons, List.zipWith_nil_left, Nat.add_sub_cancel, Nat.reduceAdd, Nat.reduceSub, Nat.zero_add, Nat.sub_self, and_true, true_and, reduceCtorEq, if_true, if_false, ite_true, ite_false, Bool.false_eq_true, Bool.not_true, Bool.not_false, decide_eq_true_eq, SD.forLoop, SD.compLoop, h1, ix_fr0, ix_fr1, sp_made])
  refine ⟨mulOk_of (u ha.1) (u d2), mulOk_of (u hb.1) (u d1), mulOk_of (u d1) (u d2), ⟨Int.mul_ne_zero (den_ne a) (den_ne b), up8 (sm1 (k := 0) d1 d2) (by decide)⟩, ?_⟩
  rw [rat_add]
  exact trQ_self rfl h
theorem h_multiplied (T : Tab) (h1 : T.sp "made" = some sp_made) : Meets sp_multiplied N_multiplied (t_multiplied T) := by
  refine q2_in fun a b S E Q ⟨ha, hb⟩ h => ?_
  unfold t_multiplied N_multiplied
  have d1 : (a.den : Int).natAbs < 2 ^ 3900 := by rw [den_nat]; exact ha.2
  have d2 : (b.den : Int).natAbs < 2 ^ 3900 := by rw [den_nat]; exact hb.2
  have u : ∀ {n : Nat}, n < 2 ^ 3900 → n < 2 ^ 8000 := fun h => up8 h (by decide)
  ((try simp only [SD.startD, List.length_cons, List.length_nil, List.map_cons, List.map_nil, List.replicate_succ, List.replicate_zero, List.cons_append, List.nil_append, Nat.reduceAdd, Nat.reduceSub, Nat.zero_add]); simp only [↓SD.ev_nil, ↓SD.ev_seq, ↓SD.ev_next, ↓SD.ev_break, ↓SD.ev_cont, ↓SD.ev_expr, ↓SD.ev_ret, ↓SD.ev_retN, ↓SD.ev_asg, ↓SD.ev_aug, ↓SD.ev_if, ↓SD.ev_for, ↓SD.ev_raise, ↓SD.ev_try, ↓SD.ev_var, ↓SD.ev_c, ↓SD.ev_glob, ↓SD.ev_tup, ↓SD.ev_lst, ↓SD.ev_bin, ↓SD.ev_un, ↓SD.ev_b1, ↓SD.ev_tE, ↓SD.ev_tNot, ↓SD.ev_tAnd, ↓SD.ev_tOr, ↓SD.ev_tYes, ↓SD.ev_not, ↓SD.ev_and, ↓SD.ev_or, ↓SD.ev_ifE, ↓SD.ev_cmp, ↓SD.ev_chain, ↓SD.ev_ix, ↓SD.ev_slice, ↓SD.ev_part1, ↓SD.ev_part0, ↓SD.ev_call, ↓SD.ev_callV, ↓SD.ev_app, ↓SD.ev_gVar, ↓SD.ev_gTup, ↓SD.ev_gIx, ↓SD.ev_iE, ↓SD.ev_iRange1, ↓SD.ev_iRange2, ↓SD.ev_iZip, ↓SD.ev_comp, ↓SD.ev_tupC, ↓SD.ev_allC, ↓SD.ev_anyC, ↓SD.ev_cComp, ↓SD.eList, ↓SD.gSeq, ↓SD.look_zero, ↓SD.look_succ, ↓SD.isa_non, ↓SD.isa_bl, ↓SD.isa_int, ↓SD.isa_str, ↓SD.isa_tup, ↓SD.isa_lref, ↓SD.ite_tt, ↓SD.ite_ff, SD.add_1, SD.add_2, SD.add_3, SD.add_4, SD.sub_1, SD.sub_2, SD.mul_1, SD.mul_2, SD.fdiv_1, SD.mod_1, SD.pow_1, SD.neg_1, SD.tr_non, SD.tr_bl, SD.tr_int, SD.tr_str, SD.tr_tup, SD.tr_lref, SD.lt_1, SD.le_1, SD.is_1, SD.is_2, SD.is_3, SD.is_4, SD.is_5, SD.is_6, SD.is_7, SD.cmp_eq, SD.cmp_ne, SD.cmp_lt, SD.cmp_le, SD.cmp_gt, SD.cmp_ge, SD.cmp_is, SD.cmp_isnot, SD.cmp_in, SD.cmp_notin, SD.eqk_int, SD.eqk_bl, SD.ix_tup, SD.ix_lref, SD.len_tup, SD.len_lref, SD.len_str, SD.abs_int, SD.int_int, SD.int_bl, SD.tuple_tup, SD.tuple_lref, SD.list_tup, SD.list_lref, SD.witer_tup, SD.witer_lref, SD.wzip_tup, SD.wipe_nil, SD.wipe_cons, SD.tru_nil, SD.tru_bl, SD.dE, SD.pairs, SD.allD, SD.anyD, SD.atI_0, SD.atI_1, SD.atI_2, SD.atI_3, SD.isa_NoneType_int, SD.isa_NoneType_bool, SD.isa_NoneType_str, SD.isa_NoneType_tuple, SD.isa_NoneType_list, SD.isa_bool_int, SD.isa_bool_bool, SD.isa_bool_str, SD.isa_bool_tuple, SD.isa_bool_list, SD.isa_int_int, SD.isa_int_bool, SD.isa_int_str, SD.isa_int_tuple, SD.isa_int_list, SD.isa_str_int, SD.isa_str_bool, SD.isa_str_str, SD.isa_str_tuple, SD.isa_str_list, SD.isa_tuple_int, SD.isa_tuple_bool, SD.isa_tuple_str, SD.isa_tuple_tuple, SD.isa_tuple_list, SD.isa_list_int, SD.isa_list_bool, SD.isa_list_str, SD.isa_list_tuple, SD.isa_list_list, List.length_cons, List.length_nil, List.map_cons, List.map_nil, List.set_cons_zero, List.set_cons_succ, List.replicate_succ, List.replicate_zero, List.cons_append, List.nil_append, List.zipWith_cons_cons, List.zipWith_nil_left, Nat.add_sub_cancel, Nat.reduceAdd, Nat.reduceSub, Nat.zero_add, Nat.sub_self, and_true, true_and, reduceCtorEq, if_true, if_false, ite_true, ite_false, Bool.false_eq_true, Bool.not_true, Bool.not_false, decide_eq_true_eq, SD.forLoop, SD.compLoop, h1, ix_fr0, ix_fr1, sp_made])
  refine ⟨mulOk_of (u ha.1) (u hb.1), mulOk_of (u d1) (u d2), ⟨Int.mul_ne_zero (den_ne a) (den_ne b), up8 (sm1 (k := 0) d1 d2) (by decide)⟩, ?_⟩
  rw [rat_mul]
  exact trQ_self rfl h
theorem fr_neg {a : Rat} : D.tup [.int (0 - a.num), .int (a.den : Int)] = fr (-a) := by
  unfold fr
  rw [Rat.neg_num, Rat.neg_den, Int.zero_sub]
theorem h_negated (T : Tab) : Meets sp_negated N_negated (t_negated T) := by
  refine q1_in fun a S E Q _ h => ?_
  unfold t_negated N_negated
  ((try simp only [SD.startD, List.length_cons, List.length_nil, List.map_cons, List.map_nil, List.replicate_succ, List.replicate_zero, List.cons_append, List.nil_append, Nat.reduceAdd, Nat.reduceSub, Nat.zero_add]); simp only [↓SD.ev_nil, ↓SD.ev_seq, ↓SD.ev_next, ↓SD.ev_break, ↓SD.ev_cont, ↓SD.ev_expr, ↓SD.ev_ret, ↓SD.ev_retN, ↓SD.ev_asg, ↓SD.ev_aug, ↓SD.ev_if, ↓SD.ev_for, ↓SD.ev_raise, ↓SD.ev_try, ↓SD.ev_var, ↓SD.ev_c, ↓SD.ev_glob, ↓SD.ev_tup, ↓SD.ev_lst, ↓SD.ev_bin, ↓SD.ev_un, ↓SD.ev_b1, ↓SD.ev_tE, ↓SD.ev_tNot, ↓SD.ev_tAnd, ↓SD.ev_tOr, ↓SD.ev_tYes, ↓SD.ev_not, ↓SD.ev_and, ↓SD.ev_or, ↓SD.ev_ifE, ↓SD.ev_cmp, ↓SD.ev_chain, ↓SD.ev_ix, ↓SD.ev_slice, ↓SD.ev_part1, ↓SD.ev_part0, ↓SD.ev_call, ↓SD.ev_callV, ↓SD.ev_app, ↓SD.ev_gVar, ↓SD.ev_gTup, ↓SD.ev_gIx, ↓SD.ev_iE, ↓SD.ev_iRange1, ↓SD.ev_iRange2, ↓SD.ev_iZip, ↓SD.ev_comp, ↓SD.ev_tupC, ↓SD.ev_allC, ↓SD.ev_anyC, ↓SD.ev_cComp, ↓SD.eList, ↓SD.gSeq, ↓SD.look_zero, ↓SD.look_succ, ↓SD.isa_non, ↓SD.isa_bl, ↓SD.isa_int, ↓SD.isa_str, ↓SD.isa_tup, ↓SD.isa_lref, ↓SD.ite_tt, ↓SD.ite_ff, SD.add_1, SD.add_2, SD.add_3, SD.add_4, SD.sub_1, SD.sub_2, SD.mul_1, SD.mul_2, SD.fdiv_1, SD.mod_1, SD.pow_1, SD.neg_1, SD.tr_non, SD.tr_bl, SD.tr_int, SD.tr_str, SD.tr_tup, SD.tr_lref, SD.lt_1, SD.le_1, SD.is_1, SD.is_2, SD.is_3, SD.is_4, SD.is_5, SD.is_6, SD.is_7, SD.cmp_eq, SD.cmp_ne, SD.cmp_lt, SD.cmp_le, SD.cmp_gt, SD.cmp_ge, SD.cmp_is, SD.cmp_isnot, SD.cmp_in, SD.cmp_notin, SD.eqk_int, SD.eqk_bl, SD.ix_tup, SD.ix_lref, SD.len_tup, SD.len_lref, SD.len_str, SD.abs_int, SD.int_int, SD.int_bl, SD.tuple_tup, SD.tuple_lref, SD.list_tup, SD.list_lref, SD.witer_tup, SD.witer_lref, SD.wzip_tup, SD.wipe_nil, SD.wipe_cons, SD.tru_nil, SD.tru_bl, SD.dE, SD.pairs, SD.allD, SD.anyD, SD.atI_0, SD.atI_1, SD.atI_2, SD.atI_3, SD.isa_NoneType_int, SD.isa_NoneType_bool, SD.isa_NoneType_str, SD.isa_NoneType_tuple, SD.isa_NoneType_list, SD.isa_bool_int, SD.isa_bool_bool, SD.isa_bool_str, SD.isa_bool_tuple, SD.isa_bool_list, SD.isa_int_int, SD.isa_int_bool, SD.isa_int_str, SD.isa_int_tuple, SD.isa_int_list, SD.isa_str_int, SD.isa_str_bool, SD.isa_str_str, SD.isa_str_tuple, SD.isa_str_list, SD.isa_tuple_int, SD.isa_tuple_bool, SD.isa_tuple_str, SD.isa_tuple_tuple, SD.isa_tuple_list, SD.isa_list_int, SD.isa_list_bool, SD.isa_list_str, SD.isa_list_tuple, SD.isa_list_list, List.length_cons, List.length_nil, List.map_cons, List.map_nil, List.set_cons_zero, List.set_cons_succ, List.replicate_succ, List.replicate_zero, List.cons_append, List.nil_append, List.zipWith_cons_cons, List.zipWith_nil_left, Nat.add_sub_cancel, Nat.reduceAdd, Nat.reduceSub, Nat.zero_add, Nat.sub_self, and_true, true_and, reduceCtorEq, if_true, if_false, ite_true, ite_false, Bool.false_eq_true, Bool.not_true, Bool.not_false, decide_eq_true_eq, SD.forLoop, SD.compLoop, ix_fr0, ix_fr1, fr_neg])
  exact trQ_self rfl h
theorem h_turned (T : Tab) (h1 : T.sp "made" = some sp_made) : Meets sp_turned N_turned (t_turned T) := by
  refine q1_in fun a S E Q ⟨h0, ha⟩ h => ?_
  unfold t_turned N_turned
  ((try simp only [SD.startD, List.length_cons, List.length_nil, List.map_cons, List.map_nil, List.replicate_succ, List.replicate_zero, List.cons_append, List.nil_append, Nat.reduceAdd, Nat.reduceSub, Nat.zero_add]); simp only [↓SD.ev_nil, ↓SD.ev_seq, ↓SD.ev_next, ↓SD.ev_break, ↓SD.ev_cont, ↓SD.ev_expr, ↓SD.ev_ret, ↓SD.ev_retN, ↓SD.ev_asg, ↓SD.ev_aug, ↓SD.ev_if, ↓SD.ev_for, ↓SD.ev_raise, ↓SD.ev_try, ↓SD.ev_var, ↓SD.ev_c, ↓SD.ev_glob, ↓SD.ev_tup, ↓SD.ev_lst, ↓SD.ev_bin, ↓SD.ev_un, ↓SD.ev_b1, ↓SD.ev_tE, ↓SD.ev_tNot, ↓SD.ev_tAnd, ↓SD.ev_tOr, ↓SD.ev_tYes, ↓SD.ev_not, ↓SD.ev_and, ↓SD.ev_or, ↓SD.ev_ifE, ↓SD.ev_cmp, ↓SD.ev_chain, ↓SD.ev_ix, ↓SD.ev_slice, ↓SD.ev_part1, ↓SD.ev_part0, ↓SD.ev_call, ↓SD.ev_callV, ↓SD.ev_app, ↓SD.ev_gVar, ↓SD.ev_gTup, ↓SD.ev_gIx, ↓SD.ev_iE, ↓SD.ev_iRange1, ↓SD.ev_iRange2, ↓SD.ev_iZip, ↓SD.ev_comp, ↓SD.ev_tupC, ↓SD.ev_allC, ↓SD.ev_anyC, ↓SD.ev_cComp, ↓SD.eList, ↓SD.gSeq, ↓SD.look_zero, ↓SD.look_succ, ↓SD.isa_non, ↓SD.isa_bl, ↓SD.isa_int, ↓SD.isa_str, ↓SD.isa_tup, ↓SD.isa_lref, ↓SD.ite_tt, ↓SD.ite_ff, SD.add_1, SD.add_2, SD.add_3, SD.add_4, SD.sub_1, SD.sub_2, SD.mul_1, SD.mul_2, SD.fdiv_1, SD.mod_1, SD.pow_1, SD.neg_1, SD.tr_non, SD.tr_bl, SD.tr_int, SD.tr_str, SD.tr_tup, SD.tr_lref, SD.lt_1, SD.le_1, SD.is_1, SD.is_2, SD.is_3, SD.is_4, SD.is_5, SD.is_6, SD.is_7, SD.cmp_eq, SD.cmp_ne, SD.cmp_lt, SD.cmp_le, SD.cmp_gt, SD.cmp_ge, SD.cmp_is, SD.cmp_isnot, SD.cmp_in, SD.cmp_notin, SD.eqk_int, SD.eqk_bl, SD.ix_tup, SD.ix_lref, SD.len_tup, SD.len_lref, SD.len_str, SD.abs_int, SD.int_int, SD.int_bl, SD.tuple_tup, SD.tuple_lref, SD.list_tup, SD.list_lref, SD.witer_tup, SD.witer_lref, SD.wzip_tup, SD.wipe_nil, SD.wipe_cons, SD.tru_nil, SD.tru_bl, SD.dE, SD.pairs, SD.allD, SD.anyD, SD.atI_0, SD.atI_1, SD.atI_2, SD.atI_3, SD.isa_NoneType_int, SD.isa_NoneType_bool, SD.isa_NoneType_str, SD.isa_NoneType_tuple, SD.isa_NoneType_list, SD.isa_bool_int, SD.isa_bool_bool, SD.isa_bool_str, SD.isa_bool_tuple, SD.isa_bool_list, SD.isa_int_int, SD.isa_int_bool, SD.isa_int_str, SD.isa_int_tuple, SD.isa_int_list, SD.isa_str_int, SD.isa_str_bool, SD.isa_str_str, SD.isa_str_tuple, SD.isa_str_list, SD.isa_tuple_int, SD.isa_tuple_bool, SD.isa_tuple_str, SD.isa_tuple_tuple, SD.isa_tuple_list, SD.isa_list_int, SD.isa_list_bool, SD.isa_list_str, SD.isa_list_tuple, SD.isa_list_list, List.length_cons, List.length_nil, List.map_cons, List.map_nil, List.set_cons_zero, List.set_cons_succ, List.replicate_succ, List.replicate_zero, List.cons_append, List.nil_append, List.zipWith_cons_cons, List.zipWith_nil_left, Nat.add_sub_cancel, Nat.reduceAdd, Nat.reduceSub, Nat.zero_add, Nat.sub_self, and_true, true_and, reduceCtorEq, if_true, if_false, ite_true, ite_false, Bool.false_eq_true, Bool.not_true, Bool.not_false, decide_eq_true_eq, SD.forLoop, SD.compLoop, h1, ix_fr0, ix_fr1, sp_made])
  refine ⟨⟨fun z => h0 (Rat.num_eq_zero.mp z), up8 ha.1 (by decide)⟩, ?_⟩
  rw [rat_inv]
  exact trQ_self rfl h
/-- -1, 0, 1 -/
def ordQ (a b : Rat) : Int := if b < a then 1 else if a < b then -1 else 0
def sp_order_of : FnD := spQ2 (fun a b => Sm a ∧ Sm b) fun a b => .int (ordQ a b)
theorem h_order_of (T : Tab) : Meets sp_order_of N_order_of (t_order_of T) := by
  refine q2_in fun a b S E Q ⟨ha, hb⟩ h => ?_
  unfold t_order_of N_order_of
  have d1 : (a.den : Int).natAbs < 2 ^ 3900 := by rw [den_nat]; exact ha.2
  have d2 : (b.den : Int).natAbs < 2 ^ 3900 := by rw [den_nat]; exact hb.2
  have u : ∀ {n : Nat}, n < 2 ^ 3900 → n < 2 ^ 8000 := fun h => up8 h (by decide)
  ((try simp only [SD.startD, List.length_cons, List.length_nil, List.map_cons, List.map_nil, List.replicate_succ, List.replicate_zero, List.cons_append, List.nil_append, Nat.reduceAdd, Nat.reduceSub, Nat.zero_add]); simp only [↓SD.ev_nil, ↓SD.ev_seq, ↓SD.ev_next, ↓SD.ev_break, ↓SD.ev_cont, ↓SD.ev_expr, ↓SD.ev_ret, ↓SD.ev_retN, ↓SD.ev_asg, ↓SD.ev_aug, ↓SD.ev_if, ↓SD.ev_for, ↓SD.ev_raise, ↓SD.ev_try, ↓SD.ev_var, ↓SD.ev_c, ↓SD.ev_glob, ↓SD.ev_tup, ↓SD.ev_lst, ↓SD.ev_bin, ↓SD.ev_un, ↓SD.ev_b1, ↓SD.ev_tE, ↓SD.ev_tNot, ↓SD.ev_tAnd, ↓SD.ev_tOr, ↓SD.ev_tYes, ↓SD.ev_not, ↓SD.ev_and, ↓SD.ev_or, ↓SD.ev_ifE, ↓SD.ev_cmp, ↓SD.ev_chain, ↓SD.ev_ix, ↓SD.ev_slice, ↓SD.ev_part1, ↓SD.ev_part0, ↓SD.ev_call, ↓SD.ev_callV, ↓SD.ev_app, ↓SD.ev_gVar, ↓SD.ev_gTup, ↓SD.ev_gIx, ↓SD.ev_iE, ↓SD.ev_iRange1, ↓SD.ev_iRange2, ↓SD.ev_iZip, ↓SD.ev_comp, ↓SD.ev_tupC, ↓SD.ev_allC, ↓SD.ev_anyC, ↓SD.ev_cComp, ↓SD.eList, ↓SD.gSeq, ↓SD.look_zero, ↓SD.look_succ, ↓SD.isa_non, ↓SD.isa_bl, ↓SD.isa_int, ↓SD.isa_str, ↓SD.isa_tup, ↓SD.isa_lref, ↓SD.ite_tt, ↓SD.ite_ff, SD.add_1, SD.add_2, SD.add_3, SD.add_4, SD.sub_1, SD.sub_2, SD.mul_1, SD.mul_2, SD.fdiv_1, SD.mod_1, SD.pow_1, SD.neg_1, SD.tr_non, SD.tr_bl, SD.tr_int, SD.tr_str, SD.tr_tup, SD.tr_lref, SD.lt_1, SD.le_1, SD.is_1, SD.is_2, SD.is_3, SD.is_4, SD.is_5, SD.is_6, SD.is_7, SD.cmp_eq, SD.cmp_ne, SD.cmp_lt, SD.cmp_le, SD.cmp_gt, SD.cmp_ge, SD.cmp_is, SD.cmp_isnot, SD.cmp_in, SD.cmp_notin, SD.eqk_int, SD.eqk_bl, SD.ix_tup, SD.ix_lref, SD.len_tup, SD.len_lref, SD.len_str, SD.abs_int, SD.int_int, SD.int_bl, SD.tuple_tup, SD.tuple_lref, SD.list_tup, SD.list_lref, SD.witer_tup, SD.witer_lref, SD.wzip_tup, SD.wipe_nil, SD.wipe_cons, SD.tru_nil, SD.tru_bl, SD.dE, SD.pairs, SD.allD, SD.anyD, SD.atI_0, SD.atI_1, SD.atI_2, SD.atI_3, SD.isa_NoneType_int, SD.isa_NoneType_bool, SD.isa_NoneType_str, SD.isa_NoneType_tuple, SD.isa_NoneType_list, SD.isa_bool_int, SD.isa_bool_bool, SD.isa_bool_str, SD.isa_bool_tuple, SD.isa_bool_list, SD.isa_int_int, SD.isa_int_bool, SD.isa_int_str, SD.isa_int_tuple, SD.isa_int_list, SD.isa_str_int, SD.isa_str_bool, SD.isa_str_str, SD.isa_str_tuple, SD.isa_str_list, SD.isa_tuple_int, SD.isa_tuple_bool, SD.isa_tuple_str, SD.isa_tuple_tuple, SD.isa_tuple_list, SD.isa_list_int, SD.isa_list_bool, SD.isa_list_str, SD.isa_list_tuple, SD.isa_list_list, List.length_cons, List.length_nil, List.map_cons, List.map_nil, List.set_cons_zero, List.set_cons_succ, List.replicate_succ, List.replicate_zero, List.cons_append, List.nil_append, List.zipWith_cons_cons, List.zipWith_nil_left, Nat.add_sub_cancel, Nat.reduceAdd, Nat.reduceSub, Nat.zero_add, Nat.sub_self, and_true, true_and, reduceCtorEq, if_true, if_false, ite_true, ite_false, Bool.false_eq_true, Bool.not_true, Bool.not_false, decide_eq_true_eq, SD.forLoop, SD.compLoop, ix_fr0, ix_fr1])
  refine ⟨mulOk_of (u ha.1) (u d2), mulOk_of (u hb.1) (u d1), ?_⟩
  have e : b2i (decide (0 < a.num * (b.den : Int) - b.num * (a.den : Int))) - b2i (decide (a.num * (b.den : Int) - b.num * (a.den : Int) < 0)) = ordQ a b := by
    unfold ordQ
    have l1 := Rat.lt_iff b a
    have l2 := Rat.lt_iff a b
    by_cases c1 : b.num * (a.den : Int) < a.num * (b.den : Int)
    · rw [if_pos (l1.mpr c1), decide_eq_true (by omega), decide_eq_false (by omega)]
      rfl
    · by_cases c2 : a.num * (b.den : Int) < b.num * (a.den : Int)
      · rw [if_neg (fun z => c1 (l1.mp z)), if_pos (l2.mpr c2), decide_eq_false (by omega), decide_eq_true (by omega)]
        rfl
      · rw [if_neg (fun z => c1 (l1.mp z)), if_neg (fun z => c2 (l2.mp z)), decide_eq_false (by omega), decide_eq_false (by omega)]
        rfl
  rw [e]
  exact trQ_self rfl h
end SP

-- SPw
set_option Elab.async false
set_option linter.all false
set_option maxRecDepth 100000
set_option maxHeartbeats 1000000
namespace SP
open PySem L2 SD SL
/-! ### ways -/
structure W3 where
  x : Rat
  y : Rat
  z : Rat
def wy (v : W3) : D := .tup [fr v.x, fr v.y, fr v.z]
theorem wy_mk {a b c : Rat} : D.tup [fr a, fr b, fr c] = wy ⟨a, b, c⟩ := rfl
theorem wy_inj {v w : W3} : wy v = wy w ↔ v = w := by
  refine ⟨fun h => ?_, fun h => by rw [h]⟩
  unfold wy at h
  injection h with h
  injection h with h1 h
  injection h with h2 h
  injection h with h3 h
  cases v
  cases w
  have e1 := fr_inj.mp h1
  have e2 := fr_inj.mp h2
  have e3 := fr_inj.mp h3
  dsimp only at e1 e2 e3
  subst e1 e2 e3
  rfl
theorem cl_wy {n : Nat} {v : W3} : clD n (wy v) = true := rfl
def wayOf : D → W3
  | .tup [a, b, c] => ⟨(toQ a).getD 0, (toQ b).getD 0, (toQ c).getD 0⟩
  | _ => ⟨0, 0, 0⟩
theorem wayOf_wy (v : W3) : wayOf (wy v) = v := by
  unfold wy wayOf
  simp only [toQ_fr]
  rfl
structure BW (k : Nat) (v : W3) : Prop where
  x : B k v.x
  r : B k v.y ∧ B k v.z
def W3.add (v w : W3) : W3 := ⟨v.x + w.x, v.y + w.y, v.z + w.z⟩
def W3.sub (v w : W3) : W3 := ⟨v.x + -w.x, v.y + -w.y, v.z + -w.z⟩
def W3.mul (v : W3) (s : Rat) : W3 := ⟨v.x * s, v.y * s, v.z * s⟩
def W3.dot (v w : W3) : Rat := v.x * w.x + v.y * w.y + v.z * w.z
def W3.cross (v w : W3) : W3 := ⟨v.y * w.z + -(v.z * w.y), v.z * w.x + -(v.x * w.z), v.x * w.y + -(v.y * w.x)⟩
def W3.zero : W3 := ⟨0, 0, 0⟩
theorem BW_add {j k : Nat} {v w : W3} (hv : BW j v) (hw : BW k w) : BW (j + k + 1) (v.add w) := ⟨B_add hv.1 hw.1, B_add hv.2.1 hw.2.1, B_add hv.2.2 hw.2.2⟩
theorem BW_sub {j k : Nat} {v w : W3} (hv : BW j v) (hw : BW k w) : BW (j + k + 1) (v.sub w) := ⟨B_add hv.1 (B_neg hw.1), B_add hv.2.1 (B_neg hw.2.1), B_add hv.2.2 (B_neg hw.2.2)⟩
theorem BW_mul {j k : Nat} {v : W3} {s : Rat} (hv : BW j v) (hs : B k s) : BW (j + k) (v.mul s) := ⟨B_mul hv.1 hs, B_mul hv.2.1 hs, B_mul hv.2.2 hs⟩
theorem B_dot {k : Nat} {v w : W3} (hv : BW k v) (hw : BW k w) : B (6 * k + 2) (v.dot w) := (B_add (B_add (B_mul hv.1 hw.1) (B_mul hv.2.1 hw.2.1)) (B_mul hv.2.2 hw.2.2)).mono (by omega)
theorem BW_cross {k : Nat} {v w : W3} (hv : BW k v) (hw : BW k w) : BW (4 * k + 1) (v.cross w) :=
  ⟨(B_add (B_mul hv.2.1 hw.2.2) (B_neg (B_mul hv.2.2 hw.2.1))).mono (by omega), (B_add (B_mul hv.2.2 hw.1) (B_neg (B_mul hv.1 hw.2.2))).mono (by omega), (B_add (B_mul hv.1 hw.2.1) (B_neg (B_mul hv.2.1 hw.1))).mono (by omega)⟩
/-! what is a way -/
def isWay : D → Bool
  | .tup [a, b, c] => isSmall a && (isSmall b && isSmall c)
  | _ => false
def oks : List D → Bool
  | [] => true
  | d :: ds => okT d && oks ds
/-- what may be asked whether it is a way -/
def okW : D → Bool
  | .tup xs => oks xs && decide (xs.length ≤ 1000)
  | d => (tyD d).isSome
theorem isFrac_toQ {d : D} (h : isFrac d = true) : ∃ q, toQ d = some q := by
  unfold isFrac at h
  split at h
  · rename_i n m
    rw [Bool.and_eq_true] at h
    exact ⟨Rat.divInt n m, if_pos ⟨of_decide_eq_true h.1, of_decide_eq_true h.2⟩⟩
  · cases h
theorem isSmall_toQ {d : D} (h : isSmall d = true) : ∃ q, toQ d = some q := by
  unfold isSmall at h
  split at h
  · rw [Bool.and_eq_true] at h
    exact isFrac_toQ h.2
  · cases h
theorem fr_of_small {d : D} (h : isSmall d = true) : d = fr ((toQ d).getD 0) := by
  obtain ⟨q, e⟩ := isSmall_toQ h
  rw [e]
  exact fr_of_toQ e
theorem isFrac_fr (q : Rat) : isFrac (fr q) = true := by
  show (decide (0 < (q.den : Int)) && decide (Int.gcd q.num q.den = 1)) = true
  rw [decide_eq_true (by exact_mod_cast q.den_pos), decide_eq_true (show Int.gcd q.num q.den = 1 from q.reduced)]
  rfl
/-- a fraction that is small -/
def smQ (q : Rat) : Prop := -1000000 ≤ q.num ∧ q.num ≤ 1000000 ∧ q.den ≤ 1000000
theorem isSmall_fr {q : Rat} (h : smQ q) : isSmall (fr q) = true := by
  have e : isSmall (fr q) = (decide (0 - 1000000 ≤ q.num) && decide (q.num ≤ 1000000) && (decide (1 ≤ (q.den : Int)) && decide ((q.den : Int) ≤ 1000000)) && isFrac (fr q)) := rfl
  have := q.den_pos
  have h3 := h.2.2
  rw [e, isFrac_fr, decide_eq_true (show 0 - 1000000 ≤ q.num from h.1), decide_eq_true h.2.1, decide_eq_true (by omega), decide_eq_true (by omega)]
  rfl
theorem smQ_of {q : Rat} (h : isSmall (fr q) = true) : smQ q := by
  have e : isSmall (fr q) = (decide (0 - 1000000 ≤ q.num) && decide (q.num ≤ 1000000) && (decide (1 ≤ (q.den : Int)) && decide ((q.den : Int) ≤ 1000000)) && isFrac (fr q)) := rfl
  rw [e] at h
  simp only [Bool.and_eq_true, decide_eq_true_eq] at h
  exact ⟨h.1.1.1, h.1.1.2, by omega⟩
theorem smQ_B {q : Rat} (h : smQ q) : B 20 q := ⟨by have := h.1; have := h.2.1; omega, by have := h.2.2; omega⟩
theorem wy_of_way {d : D} (h : isWay d = true) : d = wy (wayOf d) ∧ smQ (wayOf d).x ∧ smQ (wayOf d).y ∧ smQ (wayOf d).z := by
  unfold isWay at h
  split at h
  · rename_i a b c
    simp only [Bool.and_eq_true] at h
    obtain ⟨h1, h2, h3⟩ := h
    have e1 := fr_of_small h1
    have e2 := fr_of_small h2
    have e3 := fr_of_small h3
    have s1 : smQ ((toQ a).getD 0) := smQ_of (e1 ▸ h1)
    have s2 : smQ ((toQ b).getD 0) := smQ_of (e2 ▸ h2)
    have s3 : smQ ((toQ c).getD 0) := smQ_of (e3 ▸ h3)
    refine ⟨?_, s1, s2, s3⟩
    show D.tup [a, b, c] = D.tup [fr ((toQ a).getD 0), fr ((toQ b).getD 0), fr ((toQ c).getD 0)]
    rw [← e1, ← e2, ← e3]
  · cases h
/-- a way that the program takes -/
def smW (v : W3) : Prop := smQ v.x ∧ smQ v.y ∧ smQ v.z
theorem isWay_wy {v : W3} (h : smW v) : isWay (wy v) = true := by
  show (isSmall (fr v.x) && (isSmall (fr v.y) && isSmall (fr v.z))) = true
  rw [isSmall_fr h.1, isSmall_fr h.2.1, isSmall_fr h.2.2]
  rfl
theorem smW_B {v : W3} (h : smW v) : BW 20 v := ⟨smQ_B h.1, smQ_B h.2.1, smQ_B h.2.2⟩
theorem okT_fr (q : Rat) : okT (fr q) = true := rfl
theorem okW_wy (v : W3) : okW (wy v) = true := rfl
theorem way_case {xs : List D} : (∃ a b c, xs = [a, b, c]) ∨ xs.length ≠ 3 := by
  match xs with
  | [] => exact .inr (by simp)
  | [_] => exact .inr (by simp)
  | [_, _] => exact .inr (by simp)
  | [a, b, c] => exact .inl ⟨a, b, c, rfl⟩
  | _ :: _ :: _ :: _ :: _ => exact .inr (by simp)
theorem isWay_len {xs : List D} (h : xs.length ≠ 3) : isWay (.tup xs) = false := by
  unfold isWay
  split
  · rename_i e
    cases e
    exact absurd rfl h
  · rfl
def sp_is_way : FnD := ⟨1, fun ds S _ Q => match ds with
  | [d] => okW d = true ∧ Q (.bl (isWay d)) S
  | _ => False⟩
theorem h_is_way (T : Tab) (h1 : T.sp "is_small" = some sp_is_small) : Meets sp_is_way N_is_way (t_is_way T) := by
  intro ds S E Q hl h
  match ds, hl, h with
  | [d], _, ⟨h4, h5⟩ =>
    unfold t_is_way N_is_way
    cases d
    case tup xs hl0 =>
      rcases @way_case xs with ⟨a, b, c, rfl⟩ | hn
      · have h6 : okT a = true ∧ okT b = true ∧ okT c = true := by
          have := h4
          simp only [okW, oks, Bool.and_eq_true] at this
          exact ⟨this.1.1, this.1.2.1, this.1.2.2.1⟩
        ((try simp only [SD.startD, List.length_cons, List.length_nil, List.map_cons, List.map_nil, List.replicate_succ, List.replicate_zero, List.cons_append, List.nil_append, Nat.reduceAdd, Nat.reduceSub, Nat.zero_add]); simp only [↓SD.ev_nil, ↓SD.ev_seq, ↓SD.ev_next, ↓SD.ev_break, ↓SD.ev_cont, ↓SD.ev_expr, ↓SD.ev_ret, ↓SD.ev_retN, ↓SD.ev_asg, ↓SD.ev_aug, ↓SD.ev_if, ↓SD.ev_for, ↓SD.ev_raise, ↓SD.ev_try, ↓SD.ev_var, ↓SD.ev_c, ↓SD.ev_glob, ↓SD.ev_tup, ↓SD.ev_lst, ↓SD.ev_bin, ↓SD.ev_un, ↓SD.ev_b1, ↓SD.ev_tE, ↓SD.ev_tNot, ↓SD.ev_tAnd, ↓SD.ev_tOr, ↓SD.ev_tYes, ↓SD.ev_not, ↓SD.ev_and, ↓SD.ev_or, ↓SD.ev_ifE, ↓SD.ev_cmp, ↓SD.ev_chain, ↓SD.ev_ix, ↓SD.ev_slice, ↓SD.ev_part1, ↓SD.ev_part0, ↓SD.ev_call, ↓SD.ev_callV, ↓SD.ev_app, ↓SD.ev_gVar, ↓SD.ev_gTup, ↓SD.ev_gIx, ↓SD.ev_iE, ↓SD.ev_iRange1, ↓SD.ev_iRange2, ↓SD.ev_iZip, ↓SD.ev_comp, ↓SD.ev_tupC, ↓SD.ev_allC, ↓SD.ev_anyC, ↓SD.ev_cComp, ↓SD.eList, ↓SD.gSeq, ↓SD.look_zero, ↓SD.look_succ, ↓SD.isa_non, ↓SD.isa_bl, ↓SD.isa_int, ↓SD.isa_str, ↓SD.isa_tup, ↓SD.isa_lref, ↓SD.ite_tt, ↓SD.ite_ff, SD.add_1, SD.add_2, SD.add_3, SD.add_4, SD.sub_1, SD.sub_2, SD.mul_1, SD.mul_2, SD.fdiv_1, SD.mod_1, SD.pow_1, SD.neg_1, SD.tr_non, SD.tr_bl, SD.tr_int, SD.tr_str, SD.tr_tup, SD.tr_lref, SD.lt_1, SD.le_1, SD.is_1, SD.is_2, SD.is_3, SD.is_4, SD.is_5, SD.is_6, SD.is_7, SD.cmp_eq, SD.cmp_ne, SD.cmp_lt, SD.cmp_le, SD.cmp_gt, SD.cmp_ge, SD.cmp_is, SD.cmp_isnot, SD.cmp_in, SD.cmp_notin, SD.eqk_int, SD.eqk_bl, SD.ix_tup, SD.ix_lref, SD.len_tup, SD.len_lref, SD.len_str, SD.abs_int, SD.int_int, SD.int_bl, SD.tuple_tup, SD.tuple_lref, SD.list_tup, SD.list_lref, SD.witer_tup, SD.witer_lref, SD.wzip_tup, SD.wipe_nil, SD.wipe_cons, SD.tru_nil, SD.tru_bl, SD.dE, SD.pairs, SD.allD, SD.anyD, SD.atI_0, SD.atI_1, SD.atI_2, SD.atI_3, SD.isa_NoneType_int, SD.isa_NoneType_bool, SD.isa_NoneType_str, SD.isa_NoneType_tuple, SD.isa_NoneType_list, SD.isa_bool_int, SD.isa_bool_bool, SD.isa_bool_str, SD.isa_bool_tuple, SD.isa_bool_list, SD.isa_int_int, SD.isa_int_bool, SD.isa_int_str, SD.isa_int_tuple, SD.isa_int_list, SD.isa_str_int, SD.isa_str_bool, SD.isa_str_str, SD.isa_str_tuple, SD.isa_str_list, SD.isa_tuple_int, SD.isa_tuple_bool, SD.isa_tuple_str, SD.isa_tuple_tuple, SD.isa_tuple_list, SD.isa_list_int, SD.isa_list_bool, SD.isa_list_str, SD.isa_list_tuple, SD.isa_list_list, List.length_cons, List.length_nil, List.map_cons, List.map_nil, List.set_cons_zero, List.set_cons_succ, List.replicate_succ, List.replicate_zero, List.cons_append, List.nil_append, List.zipWith_cons_cons, List.zipWith_nil_left, Nat.add_sub_cancel, Nat.reduceAdd, Nat.reduceSub, Nat.zero_add, Nat.sub_self, and_true, true_and, reduceCtorEq, if_true, if_false, ite_true, ite_false, Bool.false_eq_true, Bool.not_true, Bool.not_false, decide_eq_true_eq, SD.forLoop, SD.compLoop, eqk_int])
        try simp only [show (decide (((3 : Nat) : Int) = 3)) = true by decide]
        try ((try simp only [SD.startD, List.length_cons, List.length_nil, List.map_cons, List.map_nil, List.replicate_succ, List.replicate_zero, List.cons_append, List.nil_append, Nat.reduceAdd, Nat.reduceSub, Nat.zero_add]); simp only [↓SD.ev_nil, ↓SD.ev_seq, ↓SD.ev_next, ↓SD.ev_break, ↓SD.ev_cont, ↓SD.ev_expr, ↓SD.ev_ret, ↓SD.ev_retN, ↓SD.ev_asg, ↓SD.ev_aug, ↓SD.ev_if, ↓SD.ev_for, ↓SD.ev_raise, ↓SD.ev_try, ↓SD.ev_var, ↓SD.ev_c, ↓SD.ev_glob, ↓SD.ev_tup, ↓SD.ev_lst, ↓SD.ev_bin, ↓SD.ev_un, ↓SD.ev_b1, ↓SD.ev_tE, ↓SD.ev_tNot, ↓SD.ev_tAnd, ↓SD.ev_tOr, ↓SD.ev_tYes, ↓SD.ev_not, ↓SD.ev_and, ↓SD.ev_or, ↓SD.ev_ifE, ↓SD.ev_cmp, ↓SD.ev_chain, ↓SD.ev_ix, ↓SD.ev_slice, ↓SD.ev_part1, ↓SD.ev_part0, ↓SD.ev_call, ↓SD.ev_callV, ↓SD.ev_app, ↓SD.ev_gVar, ↓SD.ev_gTup, ↓SD.ev_gIx, ↓SD.ev_iE, ↓SD.ev_iRange1, ↓SD.ev_iRange2, ↓SD.ev_iZip, ↓SD.ev_comp, ↓SD.ev_tupC, ↓SD.ev_allC, ↓SD.ev_anyC, ↓SD.ev_cComp, ↓SD.eList, ↓SD.gSeq, ↓SD.look_zero, ↓SD.look_succ, ↓SD.isa_non, ↓SD.isa_bl, ↓SD.isa_int, ↓SD.isa_str, ↓SD.isa_tup, ↓SD.isa_lref, ↓SD.ite_tt, ↓SD.ite_ff, SD.add_1, SD.add_2, SD.add_3, SD.add_4, SD.sub_1, SD.sub_2, SD.mul_1, SD.mul_2, SD.fdiv_1, SD.mod_1, SD.pow_1, SD.neg_1, SD.tr_non, SD.tr_bl, SD.tr_int, SD.tr_str, SD.tr_tup, SD.tr_lref, SD.lt_1, SD.le_1, SD.is_1, SD.is_2, SD.is_3, SD.is_4, SD.is_5, SD.is_6, SD.is_7, SD.cmp_eq, SD.cmp_ne, SD.cmp_lt, SD.cmp_le, SD.cmp_gt, SD.cmp_ge, SD.cmp_is, SD.cmp_isnot, SD.cmp_in, SD.cmp_notin, SD.eqk_int, SD.eqk_bl, SD.ix_tup, SD.ix_lref, SD.len_tup, SD.len_lref, SD.len_str, SD.abs_int, SD.int_int, SD.int_bl, SD.tuple_tup, SD.tuple_lref, SD.list_tup, SD.list_lref, SD.witer_tup, SD.witer_lref, SD.wzip_tup, SD.wipe_nil, SD.wipe_cons, SD.tru_nil, SD.tru_bl, SD.dE, SD.pairs, SD.allD, SD.anyD, SD.atI_0, SD.atI_1, SD.atI_2, SD.atI_3, SD.isa_NoneType_int, SD.isa_NoneType_bool, SD.isa_NoneType_str, SD.isa_NoneType_tuple, SD.isa_NoneType_list, SD.isa_bool_int, SD.isa_bool_bool, SD.isa_bool_str, SD.isa_bool_tuple, SD.isa_bool_list, SD.isa_int_int, SD.isa_int_bool, SD.isa_int_str, SD.isa_int_tuple, SD.isa_int_list, SD.isa_str_int, SD.isa_str_bool, SD.isa_str_str, SD.isa_str_tuple, SD.isa_str_list, SD.isa_tuple_int, SD.isa_tuple_bool, SD.isa_tuple_str, SD.isa_tuple_tuple, SD.isa_tuple_list, SD.isa_list_int, SD.isa_list_bool, SD.isa_list_str, SD.isa_list_tuple, SD.isa_list_list, List.length_cons, List.length_nil, List.map_cons, List.map_nil, List.set_cons_zero, List.set_cons_succ, List.replicate_succ, List.replicate_zero, List.cons_append, List.nil_append, List.zipWith_cons_cons, List.zipWith_nil_left, Nat.add_sub_cancel, Nat.reduceAdd, Nat.reduceSub, Nat.zero_add, Nat.sub_self, and_true, true_and, reduceCtorEq, if_true, if_false, ite_true, ite_false, Bool.false_eq_true, Bool.not_true, Bool.not_false, decide_eq_true_eq, SD.forLoop, SD.compLoop, h1, sp_is_small, h6.1, h6.2.1, h6.2.2])
        refine ⟨by decide, ?_⟩
        refine trQ_self rfl ?_
        have e : ([isSmall a, isSmall b, isSmall c].all id) = isWay (.tup [a, b, c]) := by
          show (isSmall a && (isSmall b && (isSmall c && true))) = (isSmall a && (isSmall b && isSmall c))
          rw [Bool.and_true]
        rw [e]
        exact h5
      · rw [isWay_len hn] at h5
        ((try simp only [SD.startD, List.length_cons, List.length_nil, List.map_cons, List.map_nil, List.replicate_succ, List.replicate_zero, List.cons_append, List.nil_append, Nat.reduceAdd, Nat.reduceSub, Nat.zero_add]); simp only [↓SD.ev_nil, ↓SD.ev_seq, ↓SD.ev_next, ↓SD.ev_break, ↓SD.ev_cont, ↓SD.ev_expr, ↓SD.ev_ret, ↓SD.ev_retN, ↓SD.ev_asg, ↓SD.ev_aug, ↓SD.ev_if, ↓SD.ev_for, ↓SD.ev_raise, ↓SD.ev_try, ↓SD.ev_var, ↓SD.ev_c, ↓SD.ev_glob, ↓SD.ev_tup, ↓SD.ev_lst, ↓SD.ev_bin, ↓SD.ev_un, ↓SD.ev_b1, ↓SD.ev_tE, ↓SD.ev_tNot, ↓SD.ev_tAnd, ↓SD.ev_tOr, ↓SD.ev_tYes, ↓SD.ev_not, ↓SD.ev_and, ↓SD.ev_or, ↓SD.ev_ifE, ↓SD.ev_cmp, ↓SD.ev_chain, ↓SD.ev_ix, ↓SD.ev_slice, ↓SD.ev_part1, ↓SD.ev_part0, ↓SD.ev_call, ↓SD.ev_callV, ↓SD.ev_app, ↓SD.ev_gVar, ↓SD.ev_gTup, ↓SD.ev_gIx, ↓SD.ev_iE, ↓SD.ev_iRange1, ↓SD.ev_iRange2, ↓SD.ev_iZip, ↓SD.ev_comp, ↓SD.ev_tupC, ↓SD.ev_allC, ↓SD.ev_anyC, ↓SD.ev_cComp, ↓SD.eList, ↓SD.gSeq, ↓SD.look_zero, ↓SD.look_succ, ↓SD.isa_non, ↓SD.isa_bl, ↓SD.isa_int, ↓SD.isa_str, ↓SD.isa_tup, ↓SD.isa_lref, ↓SD.ite_tt, ↓SD.ite_ff, SD.add_1, SD.add_2, SD.add_3, SD.add_4, SD.sub_1, SD.sub_2, SD.mul_1, SD.mul_2, SD.fdiv_1, SD.mod_1, SD.pow_1, SD.neg_1, SD.tr_non, SD.tr_bl, SD.tr_int, SD.tr_str, SD.tr_tup, SD.tr_lref, SD.lt_1, SD.le_1, SD.is_1, SD.is_2, SD.is_3, SD.is_4, SD.is_5, SD.is_6, SD.is_7, SD.cmp_eq, SD.cmp_ne, SD.cmp_lt, SD.cmp_le, SD.cmp_gt, SD.cmp_ge, SD.cmp_is, SD.cmp_isnot, SD.cmp_in, SD.cmp_notin, SD.eqk_int, SD.eqk_bl, SD.ix_tup, SD.ix_lref, SD.len_tup, SD.len_lref, SD.len_str, SD.abs_int, SD.int_int, SD.int_bl, SD.tuple_tup, SD.tuple_lref, SD.list_tup, SD.list_lref, SD.witer_tup, SD.witer_lref, SD.wzip_tup, SD.wipe_nil, SD.wipe_cons, SD.tru_nil, SD.tru_bl, SD.dE, SD.pairs, SD.allD, SD.anyD, SD.atI_0, SD.atI_1, SD.atI_2, SD.atI_3, SD.isa_NoneType_int, SD.isa_NoneType_bool, SD.isa_NoneType_str, SD.isa_NoneType_tuple, SD.isa_NoneType_list, SD.isa_bool_int, SD.isa_bool_bool, SD.isa_bool_str, SD.isa_bool_tuple, SD.isa_bool_list, SD.isa_int_int, SD.isa_int_bool, SD.isa_int_str, SD.isa_int_tuple, SD.isa_int_list, SD.isa_str_int, SD.isa_str_bool, SD.isa_str_str, SD.isa_str_tuple, SD.isa_str_list, SD.isa_tuple_int, SD.isa_tuple_bool, SD.isa_tuple_str, SD.isa_tuple_tuple, SD.isa_tuple_list, SD.isa_list_int, SD.isa_list_bool, SD.isa_list_str, SD.isa_list_tuple, SD.isa_list_list, List.length_cons, List.length_nil, List.map_cons, List.map_nil, List.set_cons_zero, List.set_cons_succ, List.replicate_succ, List.replicate_zero, List.cons_append, List.nil_append, List.zipWith_cons_cons, List.zipWith_nil_left, Nat.add_sub_cancel, Nat.reduceAdd, Nat.reduceSub, Nat.zero_add, Nat.sub_self, and_true, true_and, reduceCtorEq, if_true, if_false, ite_true, ite_false, Bool.false_eq_true, Bool.not_true, Bool.not_false, decide_eq_true_eq, SD.forLoop, SD.compLoop, eqk_int])
        have e : ¬ ((xs.length : Int) = 3) := by omega
        simp only [e, decide_false]
        try ((try simp only [SD.startD, List.length_cons, List.length_nil, List.map_cons, List.map_nil, List.replicate_succ, List.replicate_zero, List.cons_append, List.nil_append, Nat.reduceAdd, Nat.reduceSub, Nat.zero_add]); simp only [↓SD.ev_nil, ↓SD.ev_seq, ↓SD.ev_next, ↓SD.ev_break, ↓SD.ev_cont, ↓SD.ev_expr, ↓SD.ev_ret, ↓SD.ev_retN, ↓SD.ev_asg, ↓SD.ev_aug, ↓SD.ev_if, ↓SD.ev_for, ↓SD.ev_raise, ↓SD.ev_try, ↓SD.ev_var, ↓SD.ev_c, ↓SD.ev_glob, ↓SD.ev_tup, ↓SD.ev_lst, ↓SD.ev_bin, ↓SD.ev_un, ↓SD.ev_b1, ↓SD.ev_tE, ↓SD.ev_tNot, ↓SD.ev_tAnd, ↓SD.ev_tOr, ↓SD.ev_tYes, ↓SD.ev_not, ↓SD.ev_and, ↓SD.ev_or, ↓SD.ev_ifE, ↓SD.ev_cmp, ↓SD.ev_chain, ↓SD.ev_ix, ↓SD.ev_slice, ↓SD.ev_part1, ↓SD.ev_part0, ↓SD.ev_call, ↓SD.ev_callV, ↓SD.ev_app, ↓SD.ev_gVar, ↓SD.ev_gTup, ↓SD.ev_gIx, ↓SD.ev_iE, ↓SD.ev_iRange1, ↓SD.ev_iRange2, ↓SD.ev_iZip, ↓SD.ev_comp, ↓SD.ev_tupC, ↓SD.ev_allC, ↓SD.ev_anyC, ↓SD.ev_cComp, ↓SD.eList, ↓SD.gSeq, ↓SD.look_zero, ↓SD.look_succ, ↓SD.isa_non, ↓SD.isa_bl, ↓SD.isa_int, ↓SD.isa_str, ↓SD.isa_tup, ↓SD.isa_lref, ↓SD.ite_tt, ↓SD.ite_ff, SD.add_1, SD.add_2, SD.add_3, SD.add_4, SD.sub_1, SD.sub_2, SD.mul_1, SD.mul_2, SD.fdiv_1, SD.mod_1, SD.pow_1, SD.neg_1, SD.tr_non, SD.tr_bl, SD.tr_int, SD.tr_str, SD.tr_tup, SD.tr_lref, SD.lt_1, SD.le_1, SD.is_1, SD.is_2, SD.is_3, SD.is_4, SD.is_5, SD.is_6, SD.is_7, SD.cmp_eq, SD.cmp_ne, SD.cmp_lt, SD.cmp_le, SD.cmp_gt, SD.cmp_ge, SD.cmp_is, SD.cmp_isnot, SD.cmp_in, SD.cmp_notin, SD.eqk_int, SD.eqk_bl, SD.ix_tup, SD.ix_lref, SD.len_tup, SD.len_lref, SD.len_str, SD.abs_int, SD.int_int, SD.int_bl, SD.tuple_tup, SD.tuple_lref, SD.list_tup, SD.list_lref, SD.witer_tup, SD.witer_lref, SD.wzip_tup, SD.wipe_nil, SD.wipe_cons, SD.tru_nil, SD.tru_bl, SD.dE, SD.pairs, SD.allD, SD.anyD, SD.atI_0, SD.atI_1, SD.atI_2, SD.atI_3, SD.isa_NoneType_int, SD.isa_NoneType_bool, SD.isa_NoneType_str, SD.isa_NoneType_tuple, SD.isa_NoneType_list, SD.isa_bool_int, SD.isa_bool_bool, SD.isa_bool_str, SD.isa_bool_tuple, SD.isa_bool_list, SD.isa_int_int, SD.isa_int_bool, SD.isa_int_str, SD.isa_int_tuple, SD.isa_int_list, SD.isa_str_int, SD.isa_str_bool, SD.isa_str_str, SD.isa_str_tuple, SD.isa_str_list, SD.isa_tuple_int, SD.isa_tuple_bool, SD.isa_tuple_str, SD.isa_tuple_tuple, SD.isa_tuple_list, SD.isa_list_int, SD.isa_list_bool, SD.isa_list_str, SD.isa_list_tuple, SD.isa_list_list, List.length_cons, List.length_nil, List.map_cons, List.map_nil, List.set_cons_zero, List.set_cons_succ, List.replicate_succ, List.replicate_zero, List.cons_append, List.nil_append, List.zipWith_cons_cons, List.zipWith_nil_left, Nat.add_sub_cancel, Nat.reduceAdd, Nat.reduceSub, Nat.zero_add, Nat.sub_self, and_true, true_and, reduceCtorEq, if_true, if_false, ite_true, ite_false, Bool.false_eq_true, Bool.not_true, Bool.not_false, decide_eq_true_eq, SD.forLoop, SD.compLoop])
        exact trQ_self rfl h5
    all_goals first
      | (cases h4; done)
      | (((try simp only [SD.startD, List.length_cons, List.length_nil, List.map_cons, List.map_nil, List.replicate_succ, List.replicate_zero, List.cons_append, List.nil_append, Nat.reduceAdd, Nat.reduceSub, Nat.zero_add]); simp only [↓SD.ev_nil, ↓SD.ev_seq, ↓SD.ev_next, ↓SD.ev_break, ↓SD.ev_cont, ↓SD.ev_expr, ↓SD.ev_ret, ↓SD.ev_retN, ↓SD.ev_asg, ↓SD.ev_aug, ↓SD.ev_if, ↓SD.ev_for, ↓SD.ev_raise, ↓SD.ev_try, ↓SD.ev_var, ↓SD.ev_c, ↓SD.ev_glob, ↓SD.ev_tup, ↓SD.ev_lst, ↓SD.ev_bin, ↓SD.ev_un, ↓SD.ev_b1, ↓SD.ev_tE, ↓SD.ev_tNot, ↓SD.ev_tAnd, ↓SD.ev_tOr, ↓SD.ev_tYes, ↓SD.ev_not, ↓SD.ev_and, ↓SD.ev_or, ↓SD.ev_ifE, ↓SD.ev_cmp, ↓SD.ev_chain, ↓SD.ev_ix, ↓SD.ev_slice, ↓SD.ev_part1, ↓SD.ev_part0, ↓SD.ev_call, ↓SD.ev_callV, ↓SD.ev_app, ↓SD.ev_gVar, ↓SD.ev_gTup, ↓SD.ev_gIx, ↓SD.ev_iE, ↓SD.ev_iRange1, ↓SD.ev_iRange2, ↓SD.ev_iZip, ↓SD.ev_comp, ↓SD.ev_tupC, ↓SD.ev_allC, ↓SD.ev_anyC, ↓SD.ev_cComp, ↓SD.eList, ↓SD.gSeq, ↓SD.look_zero, ↓SD.look_succ, ↓SD.isa_non, ↓SD.isa_bl, ↓SD.isa_int, ↓SD.isa_str, ↓SD.isa_tup, ↓SD.isa_lref, ↓SD.ite_tt, ↓SD.ite_ff, SD.add_1, SD.add_2, SD.add_3, SD.add_4, SD.sub_1, SD.sub_2, SD.mul_1, SD.mul_2, SD.fdiv_1, SD.mod_1, SD.pow_1, SD.neg_1, SD.tr_non, SD.tr_bl, SD.tr_int, SD.tr_str, SD.tr_tup, SD.tr_lref, SD.lt_1, SD.le_1, SD.is_1, SD.is_2, SD.is_3, SD.is_4, SD.is_5, SD.is_6, SD.is_7, SD.cmp_eq, SD.cmp_ne, SD.cmp_lt, SD.cmp_le, SD.cmp_gt, SD.cmp_ge, SD.cmp_is, SD.cmp_isnot, SD.cmp_in, SD.cmp_notin, SD.eqk_int, SD.eqk_bl, SD.ix_tup, SD.ix_lref, SD.len_tup, SD.len_lref, SD.len_str, SD.abs_int, SD.int_int, SD.int_bl, SD.tuple_tup, SD.tuple_lref, SD.list_tup, SD.list_lref, SD.witer_tup, SD.witer_lref, SD.wzip_tup, SD.wipe_nil, SD.wipe_cons, SD.tru_nil, SD.tru_bl, SD.dE, SD.pairs, SD.allD, SD.anyD, SD.atI_0, SD.atI_1, SD.atI_2, SD.atI_3, SD.isa_NoneType_int, SD.isa_NoneType_bool, SD.isa_NoneType_str, SD.isa_NoneType_tuple, SD.isa_NoneType_list, SD.isa_bool_int, SD.isa_bool_bool, SD.isa_bool_str, SD.isa_bool_tuple, SD.isa_bool_list, SD.isa_int_int, SD.isa_int_bool, SD.isa_int_str, SD.isa_int_tuple, SD.isa_int_list, SD.isa_str_int, SD.isa_str_bool, SD.isa_str_str, SD.isa_str_tuple, SD.isa_str_list, SD.isa_tuple_int, SD.isa_tuple_bool, SD.isa_tuple_str, SD.isa_tuple_tuple, SD.isa_tuple_list, SD.isa_list_int, SD.isa_list_bool, SD.isa_list_str, SD.isa_list_tuple, SD.isa_list_list, List.length_cons, List.length_nil, List.map_cons, List.map_nil, List.set_cons_zero, List.set_cons_succ, List.replicate_succ, List.replicate_zero, List.cons_append, List.nil_append, List.zipWith_cons_cons, List.zipWith_nil_left, Nat.add_sub_cancel, Nat.reduceAdd, Nat.reduceSub, Nat.zero_add, Nat.sub_self, and_true, true_and, reduceCtorEq, if_true, if_false, ite_true, ite_false, Bool.false_eq_true, Bool.not_true, Bool.not_false, decide_eq_true_eq, SD.forLoop, SD.compLoop]); exact trQ_self rfl h5)
def sp_demand_way : FnD := ⟨2, fun ds S E Q => match ds with
  | [d, .str r] => okW d = true ∧ if isWay d = true then Q .non S else E (argErr r) S
  | _ => False⟩
theorem h_demand_way (T : Tab) (h1 : T.sp "is_way" = some sp_is_way) (h2 : T.exc "ArgumentError" = some [("reason" : Str)]) : Meets sp_demand_way N_demand_way (t_demand_way T) := by
  intro ds S E Q hl h
  unfold sp_demand_way at h
  unfold t_demand_way N_demand_way
  dsimp only at h
  split at h
  · rename_i d r
    obtain ⟨h3, h4⟩ := h
    ((try simp only [SD.startD, List.length_cons, List.length_nil, List.map_cons, List.map_nil, List.replicate_succ, List.replicate_zero, List.cons_append, List.nil_append, Nat.reduceAdd, Nat.reduceSub, Nat.zero_add]); simp only [↓SD.ev_nil, ↓SD.ev_seq, ↓SD.ev_next, ↓SD.ev_break, ↓SD.ev_cont, ↓SD.ev_expr, ↓SD.ev_ret, ↓SD.ev_retN, ↓SD.ev_asg, ↓SD.ev_aug, ↓SD.ev_if, ↓SD.ev_for, ↓SD.ev_raise, ↓SD.ev_try, ↓SD.ev_var, ↓SD.ev_c, ↓SD.ev_glob, ↓SD.ev_tup, ↓SD.ev_lst, ↓SD.ev_bin, ↓SD.ev_un, ↓SD.ev_b1, ↓SD.ev_tE, ↓SD.ev_tNot, ↓SD.ev_tAnd, ↓SD.ev_tOr, ↓SD.ev_tYes, ↓SD.ev_not, ↓SD.ev_and, ↓SD.ev_or, ↓SD.ev_ifE, ↓SD.ev_cmp, ↓SD.ev_chain, ↓SD.ev_ix, ↓SD.ev_slice, ↓SD.ev_part1, ↓SD.ev_part0, ↓SD.ev_call, ↓SD.ev_callV, ↓SD.ev_app, ↓SD.ev_gVar, ↓SD.ev_gTup, ↓SD.ev_gIx, ↓SD.ev_iE, ↓SD.ev_iRange1, ↓SD.ev_iRange2, ↓SD.ev_iZip, ↓SD.ev_comp, ↓SD.ev_tupC, ↓SD.ev_allC, ↓SD.ev_anyC, ↓SD.ev_cComp, ↓SD.eList, ↓SD.gSeq, ↓SD.look_zero, ↓SD.look_succ, ↓SD.isa_non, ↓SD.isa_bl, ↓SD.isa_int, ↓SD.isa_str, ↓SD.isa_tup, ↓SD.isa_lref, ↓SD.ite_tt, ↓SD.ite_ff, SD.add_1, SD.add_2, SD.add_3, SD.add_4, SD.sub_1, SD.sub_2, SD.mul_1, SD.mul_2, SD.fdiv_1, SD.mod_1, SD.pow_1, SD.neg_1, SD.tr_non, SD.tr_bl, SD.tr_int, SD.tr_str, SD.tr_tup, SD.tr_lref, SD.lt_1, SD.le_1, SD.is_1, SD.is_2, SD.is_3, SD.is_4, SD.is_5, SD.is_6, SD.is_7, SD.cmp_eq, SD.cmp_ne, SD.cmp_lt, SD.cmp_le, SD.cmp_gt, SD.cmp_ge, SD.cmp_is, SD.cmp_isnot, SD.cmp_in, SD.cmp_notin, SD.eqk_int, SD.eqk_bl, SD.ix_tup, SD.ix_lref, SD.len_tup, SD.len_lref, SD.len_str, SD.abs_int, SD.int_int, SD.int_bl, SD.tuple_tup, SD.tuple_lref, SD.list_tup, SD.list_lref, SD.witer_tup, SD.witer_lref, SD.wzip_tup, SD.wipe_nil, SD.wipe_cons, SD.tru_nil, SD.tru_bl, SD.dE, SD.pairs, SD.allD, SD.anyD, SD.atI_0, SD.atI_1, SD.atI_2, SD.atI_3, SD.isa_NoneType_int, SD.isa_NoneType_bool, SD.isa_NoneType_str, SD.isa_NoneType_tuple, SD.isa_NoneType_list, SD.isa_bool_int, SD.isa_bool_bool, SD.isa_bool_str, SD.isa_bool_tuple, SD.isa_bool_list, SD.isa_int_int, SD.isa_int_bool, SD.isa_int_str, SD.isa_int_tuple, SD.isa_int_list, SD.isa_str_int, SD.isa_str_bool, SD.isa_str_str, SD.isa_str_tuple, SD.isa_str_list, SD.isa_tuple_int, SD.isa_tuple_bool, SD.isa_tuple_str, SD.isa_tuple_tuple, SD.isa_tuple_list, SD.isa_list_int, SD.isa_list_bool, SD.isa_list_str, SD.isa_list_tuple, SD.isa_list_list, List.length_cons, List.length_nil, List.map_cons, List.map_nil, List.set_cons_zero, List.set_cons_succ, List.replicate_succ, List.replicate_zero, List.cons_append, List.nil_append, List.zipWith_cons_cons, List.zipWith_nil_left, Nat.add_sub_cancel, Nat.reduceAdd, Nat.reduceSub, Nat.zero_add, Nat.sub_self, and_true, true_and, reduceCtorEq, if_true, if_false, ite_true, ite_false, Bool.false_eq_true, Bool.not_true, Bool.not_false, decide_eq_true_eq, SD.forLoop, SD.compLoop, h1, sp_is_way, h3])
    cases e : isWay d with
    | true =>
      rw [e] at h4
      try ((try simp only [SD.startD, List.length_cons, List.length_nil, List.map_cons, List.map_nil, List.replicate_succ, List.replicate_zero, List.cons_append, List.nil_append, Nat.reduceAdd, Nat.reduceSub, Nat.zero_add]); simp only [↓SD.ev_nil, ↓SD.ev_seq, ↓SD.ev_next, ↓SD.ev_break, ↓SD.ev_cont, ↓SD.ev_expr, ↓SD.ev_ret, ↓SD.ev_retN, ↓SD.ev_asg, ↓SD.ev_aug, ↓SD.ev_if, ↓SD.ev_for, ↓SD.ev_raise, ↓SD.ev_try, ↓SD.ev_var, ↓SD.ev_c, ↓SD.ev_glob, ↓SD.ev_tup, ↓SD.ev_lst, ↓SD.ev_bin, ↓SD.ev_un, ↓SD.ev_b1, ↓SD.ev_tE, ↓SD.ev_tNot, ↓SD.ev_tAnd, ↓SD.ev_tOr, ↓SD.ev_tYes, ↓SD.ev_not, ↓SD.ev_and, ↓SD.ev_or, ↓SD.ev_ifE, ↓SD.ev_cmp, ↓SD.ev_chain, ↓SD.ev_ix, ↓SD.ev_slice, ↓SD.ev_part1, ↓SD.ev_part0, ↓SD.ev_call, ↓SD.ev_callV, ↓SD.ev_app, ↓SD.ev_gVar, ↓SD.ev_gTup, ↓SD.ev_gIx, ↓SD.ev_iE, ↓SD.ev_iRange1, ↓SD.ev_iRange2, ↓SD.ev_iZip, ↓SD.ev_comp, ↓SD.ev_tupC, ↓SD.ev_allC, ↓SD.ev_anyC, ↓SD.ev_cComp, ↓SD.eList, ↓SD.gSeq, ↓SD.look_zero, ↓SD.look_succ, ↓SD.isa_non, ↓SD.isa_bl, ↓SD.isa_int, ↓SD.isa_str, ↓SD.isa_tup, ↓SD.isa_lref, ↓SD.ite_tt, ↓SD.ite_ff, SD.add_1, SD.add_2, SD.add_3, SD.add_4, SD.sub_1, SD.sub_2, SD.mul_1, SD.mul_2, SD.fdiv_1, SD.mod_1, SD.pow_1, SD.neg_1, SD.tr_non, SD.tr_bl, SD.tr_int, SD.tr_str, SD.tr_tup, SD.tr_lref, SD.lt_1, SD.le_1, SD.is_1, SD.is_2, SD.is_3, SD.is_4, SD.is_5, SD.is_6, SD.is_7, SD.cmp_eq, SD.cmp_ne, SD.cmp_lt, SD.cmp_le, SD.cmp_gt, SD.cmp_ge, SD.cmp_is, SD.cmp_isnot, SD.cmp_in, SD.cmp_notin, SD.eqk_int, SD.eqk_bl, SD.ix_tup, SD.ix_lref, SD.len_tup, SD.len_lref, SD.len_str, SD.abs_int, SD.int_int, SD.int_bl, SD.tuple_tup, SD.tuple_lref, SD.list_tup, SD.list_lref, SD.witer_tup, SD.witer_lref, SD.wzip_tup, SD.wipe_nil, SD.wipe_cons, SD.tru_nil, SD.tru_bl, SD.dE, SD.pairs, SD.allD, SD.anyD, SD.atI_0, SD.atI_1, SD.atI_2, SD.atI_3, SD.isa_NoneType_int, SD.isa_NoneType_bool, SD.isa_NoneType_str, SD.isa_NoneType_tuple, SD.isa_NoneType_list, SD.isa_bool_int, SD.isa_bool_bool, SD.isa_bool_str, SD.isa_bool_tuple, SD.isa_bool_list, SD.isa_int_int, SD.isa_int_bool, SD.isa_int_str, SD.isa_int_tuple, SD.isa_int_list, SD.isa_str_int, SD.isa_str_bool, SD.isa_str_str, SD.isa_str_tuple, SD.isa_str_list, SD.isa_tuple_int, SD.isa_tuple_bool, SD.isa_tuple_str, SD.isa_tuple_tuple, SD.isa_tuple_list, SD.isa_list_int, SD.isa_list_bool, SD.isa_list_str, SD.isa_list_tuple, SD.isa_list_list, List.length_cons, List.length_nil, List.map_cons, List.map_nil, List.set_cons_zero, List.set_cons_succ, List.replicate_succ, List.replicate_zero, List.cons_append, List.nil_append, List.zipWith_cons_cons, List.zipWith_nil_left, Nat.add_sub_cancel, Nat.reduceAdd, Nat.reduceSub, Nat.zero_add, Nat.sub_self, and_true, true_and, reduceCtorEq, if_true, if_false, ite_true, ite_false, Bool.false_eq_true, Bool.not_true, Bool.not_false, decide_eq_true_eq, SD.forLoop, SD.compLoop])
      exact trQ_self rfl h4
    | false =>
      rw [e] at h4
      try ((try simp only [SD.startD, List.length_cons, List.length_nil, List.map_cons, List.map_nil, List.replicate_succ, List.replicate_zero, List.cons_append, List.nil_append, Nat.reduceAdd, Nat.reduceSub, Nat.zero_add]); simp only [↓SD.ev_nil, ↓SD.ev_seq, ↓SD.ev_next, ↓SD.ev_break, ↓SD.ev_cont, ↓SD.ev_expr, ↓SD.ev_ret, ↓SD.ev_retN, ↓SD.ev_asg, ↓SD.ev_aug, ↓SD.ev_if, ↓SD.ev_for, ↓SD.ev_raise, ↓SD.ev_try, ↓SD.ev_var, ↓SD.ev_c, ↓SD.ev_glob, ↓SD.ev_tup, ↓SD.ev_lst, ↓SD.ev_bin, ↓SD.ev_un, ↓SD.ev_b1, ↓SD.ev_tE, ↓SD.ev_tNot, ↓SD.ev_tAnd, ↓SD.ev_tOr, ↓SD.ev_tYes, ↓SD.ev_not, ↓SD.ev_and, ↓SD.ev_or, ↓SD.ev_ifE, ↓SD.ev_cmp, ↓SD.ev_chain, ↓SD.ev_ix, ↓SD.ev_slice, ↓SD.ev_part1, ↓SD.ev_part0, ↓SD.ev_call, ↓SD.ev_callV, ↓SD.ev_app, ↓SD.ev_gVar, ↓SD.ev_gTup, ↓SD.ev_gIx, ↓SD.ev_iE, ↓SD.ev_iRange1, ↓SD.ev_iRange2, ↓SD.ev_iZip, ↓SD.ev_comp, ↓SD.ev_tupC, ↓SD.ev_allC, ↓SD.ev_anyC, ↓SD.ev_cComp, ↓SD.eList, ↓SD.gSeq, ↓SD.look_zero, ↓SD.look_succ, ↓SD.isa_non, ↓SD.isa_bl, ↓SD.isa_int, ↓SD.isa_str, ↓SD.isa_tup, ↓SD.isa_lref, ↓SD.ite_tt, ↓SD.ite_ff, SD.add_1, SD.add_2, SD.add_3, SD.add_4, SD.sub_1, SD.sub_2, SD.mul_1, SD.mul_2, SD.fdiv_1, SD.mod_1, SD.pow_1, SD.neg_1, SD.tr_non, SD.tr_bl, SD.tr_int, SD.tr_str, SD.tr_tup, SD.tr_lref, SD.lt_1, SD.le_1, SD.is_1, SD.is_2, SD.is_3, SD.is_4, SD.is_5, SD.is_6, SD.is_7, SD.cmp_eq, SD.cmp_ne, SD.cmp_lt, SD.cmp_le, SD.cmp_gt, SD.cmp_ge, SD.cmp_is, SD.cmp_isnot, SD.cmp_in, SD.cmp_notin, SD.eqk_int, SD.eqk_bl, SD.ix_tup, SD.ix_lref, SD.len_tup, SD.len_lref, SD.len_str, SD.abs_int, SD.int_int, SD.int_bl, SD.tuple_tup, SD.tuple_lref, SD.list_tup, SD.list_lref, SD.witer_tup, SD.witer_lref, SD.wzip_tup, SD.wipe_nil, SD.wipe_cons, SD.tru_nil, SD.tru_bl, SD.dE, SD.pairs, SD.allD, SD.anyD, SD.atI_0, SD.atI_1, SD.atI_2, SD.atI_3, SD.isa_NoneType_int, SD.isa_NoneType_bool, SD.isa_NoneType_str, SD.isa_NoneType_tuple, SD.isa_NoneType_list, SD.isa_bool_int, SD.isa_bool_bool, SD.isa_bool_str, SD.isa_bool_tuple, SD.isa_bool_list, SD.isa_int_int, SD.isa_int_bool, SD.isa_int_str, SD.isa_int_tuple, SD.isa_int_list, SD.isa_str_int, SD.isa_str_bool, SD.isa_str_str, SD.isa_str_tuple, SD.isa_str_list, SD.isa_tuple_int, SD.isa_tuple_bool, SD.isa_tuple_str, SD.isa_tuple_tuple, SD.isa_tuple_list, SD.isa_list_int, SD.isa_list_bool, SD.isa_list_str, SD.isa_list_tuple, SD.isa_list_list, List.length_cons, List.length_nil, List.map_cons, List.map_nil, List.set_cons_zero, List.set_cons_succ, List.replicate_succ, List.replicate_zero, List.cons_append, List.nil_append, List.zipWith_cons_cons, List.zipWith_nil_left, Nat.add_sub_cancel, Nat.reduceAdd, Nat.reduceSub, Nat.zero_add, Nat.sub_self, and_true, true_and, reduceCtorEq, if_true, if_false, ite_true, ite_false, Bool.false_eq_true, Bool.not_true, Bool.not_false, decide_eq_true_eq, SD.forLoop, SD.compLoop, h2])
      exact trE_self rfl h4
  · exact h.elim
/-! values of fractions, ways: same or not -/
theorem eqD_fr {a b : Rat} : eqD (fr a) (fr b) = decide (a = b) := by
  show ((a.num == b.num) && (((a.den : Int) == (b.den : Int)) && true)) = _
  by_cases h : a = b
  · subst h
    simp
  · rw [decide_eq_false h]
    by_cases h1 : a.num = b.num
    · have h2 : a.den ≠ b.den := fun z => h (Rat.ext h1 z)
      have h3 : ((a.den : Int) == (b.den : Int)) = false := by
        refine Bool.eq_false_iff.mpr fun z => h2 (Int.ofNat_inj.mp (eq_of_beq z))
      simp [h3]
    · simp [h1]
theorem eqD_wy {v w : W3} : eqD (wy v) (wy w) = (decide (v.x = w.x) && (decide (v.y = w.y) && decide (v.z = w.z))) := by
  show (eqD (fr v.x) (fr w.x) && (eqD (fr v.y) (fr w.y) && (eqD (fr v.z) (fr w.z) && true))) = _
  rw [eqD_fr, eqD_fr, eqD_fr, Bool.and_true]
instance : DecidableEq W3 := fun v w => decidable_of_iff (v.x = w.x ∧ v.y = w.y ∧ v.z = w.z) ⟨fun ⟨a, b, c⟩ => by cases v; cases w; simp_all, fun h => by rw [h]; exact ⟨rfl, rfl, rfl⟩⟩
theorem eqD_wy' {v w : W3} : eqD (wy v) (wy w) = decide (v = w) := by
  rw [eqD_wy]
  by_cases h : v = w
  · subst h
    simp
  · rw [decide_eq_false h]
    cases v
    cases w
    simp at h ⊢
    exact h
theorem eqk_wy {v w : W3} {S : Store} {K : Bool → Prop} : eqK (wy v) (wy w) S K = K (decide (v = w)) := by
  show ((okD 20 (wy v) = true ∧ okD 20 (wy w) = true) ∧ K (eqD (wy v) (wy w))) = _
  rw [eqD_wy']
  have h1 : okD 20 (wy v) = true := rfl
  have h2 : okD 20 (wy w) = true := rfl
  simp only [h1, h2, and_self, true_and]
theorem eqk_fr {v w : Rat} {S : Store} {K : Bool → Prop} : eqK (fr v) (fr w) S K = K (decide (v = w)) := by
  show ((okD 20 (fr v) = true ∧ okD 20 (fr w) = true) ∧ K (eqD (fr v) (fr w))) = _
  rw [eqD_fr]
  have h1 : okD 20 (fr v) = true := rfl
  have h2 : okD 20 (fr w) = true := rfl
  simp only [h1, h2, and_self, true_and]
/-! ### operations on ways -/
def spW2 (pre : W3 → W3 → Prop) (r : W3 → W3 → D) : FnD := ⟨2, fun ds S _ Q => ∃ v w, ds = [wy v, wy w] ∧ pre v w ∧ Q (r v w) S⟩
theorem spW2_wy {pre : W3 → W3 → Prop} {r : W3 → W3 → D} {v w : W3} {S : Store} {E : QX} {Q : QV} : (spW2 pre r).sp [wy v, wy w] S E Q = (pre v w ∧ Q (r v w) S) := by
  refine propext ⟨fun ⟨a, b, e, h⟩ => ?_, fun h => ⟨v, w, rfl, h⟩⟩
  injection e with e1 e
  injection e with e2 e
  rw [wy_inj.mp e1, wy_inj.mp e2]
  exact h
def spWQ (pre : W3 → Rat → Prop) (r : W3 → Rat → D) : FnD := ⟨2, fun ds S _ Q => ∃ v q, ds = [wy v, fr q] ∧ pre v q ∧ Q (r v q) S⟩
theorem spWQ_wy {pre : W3 → Rat → Prop} {r : W3 → Rat → D} {v : W3} {q : Rat} {S : Store} {E : QX} {Q : QV} : (spWQ pre r).sp [wy v, fr q] S E Q = (pre v q ∧ Q (r v q) S) := by
  refine propext ⟨fun ⟨a, b, e, h⟩ => ?_, fun h => ⟨v, q, rfl, h⟩⟩
  injection e with e1 e
  injection e with e2 e
  rw [wy_inj.mp e1, fr_inj.mp e2]
  exact h
def spW1 (pre : W3 → Prop) (r : W3 → D) : FnD := ⟨1, fun ds S _ Q => ∃ v, ds = [wy v] ∧ pre v ∧ Q (r v) S⟩
theorem spW1_wy {pre : W3 → Prop} {r : W3 → D} {v : W3} {S : Store} {E : QX} {Q : QV} : (spW1 pre r).sp [wy v] S E Q = (pre v ∧ Q (r v) S) := by
  refine propext ⟨fun ⟨a, e, h⟩ => ?_, fun h => ⟨v, rfl, h⟩⟩
  injection e with e1 e
  rw [wy_inj.mp e1]
  exact h
def spW3 (pre : W3 → W3 → W3 → Prop) (r : W3 → W3 → W3 → D) : FnD := ⟨3, fun ds S _ Q => ∃ u v w, ds = [wy u, wy v, wy w] ∧ pre u v w ∧ Q (r u v w) S⟩
theorem spW3_wy {pre : W3 → W3 → W3 → Prop} {r : W3 → W3 → W3 → D} {u v w : W3} {S : Store} {E : QX} {Q : QV} : (spW3 pre r).sp [wy u, wy v, wy w] S E Q = (pre u v w ∧ Q (r u v w) S) := by
  refine propext ⟨fun ⟨a, b, c, e, h⟩ => ?_, fun h => ⟨u, v, w, rfl, h⟩⟩
  injection e with e1 e
  injection e with e2 e
  injection e with e3 e
  rw [wy_inj.mp e1, wy_inj.mp e2, wy_inj.mp e3]
  exact h
theorem w_n2 {pre : W3 → W3 → Prop} {r : W3 → W3 → D} : (spW2 pre r).n = 2 := rfl
theorem w_nQ {pre : W3 → Rat → Prop} {r : W3 → Rat → D} : (spWQ pre r).n = 2 := rfl
theorem w_n1 {pre : W3 → Prop} {r : W3 → D} : (spW1 pre r).n = 1 := rfl
theorem w_n3 {pre : W3 → W3 → W3 → Prop} {r : W3 → W3 → W3 → D} : (spW3 pre r).n = 3 := rfl
def sp_sum_of : FnD := spW2 (fun v w => BW 3900 v ∧ BW 3900 w) fun v w => wy (v.add w)
def sp_less : FnD := spW2 (fun v w => BW 3900 v ∧ BW 3900 w) fun v w => wy (v.sub w)
def sp_scaled : FnD := spWQ (fun v q => BW 3900 v ∧ B 3900 q) fun v q => wy (v.mul q)
theorem it_wy {v : W3} {S : Store} {QI : List D → (Store → Prop) → Store → Prop} : iterD (wy v) S QI = QI [fr v.x, fr v.y, fr v.z] (fun _ => True) S := rfl
theorem zip_wy {v w : W3} {S : Store} {QI : List D → (Store → Prop) → Store → Prop} : zipD (wy v) (wy w) S QI = QI [.tup [fr v.x, fr w.x], .tup [fr v.y, fr w.y], .tup [fr v.z, fr w.z]] (fun _ => True) S := rfl
theorem ix_wy0 {v : W3} {S : Store} {Q : QV} : ixD (wy v) (.int 0) S Q = Q (fr v.x) S := by unfold wy; ((try simp only [SD.startD, List.length_cons, List.length_nil, List.map_cons, List.map_nil, List.replicate_succ, List.replicate_zero, List.cons_append, List.nil_append, Nat.reduceAdd, Nat.reduceSub, Nat.zero_add]); simp only [↓SD.ev_nil, ↓SD.ev_seq, ↓SD.ev_next, ↓SD.ev_break, ↓SD.ev_cont, ↓SD.ev_expr, ↓SD.ev_ret, ↓SD.ev_retN, ↓SD.ev_asg, ↓SD.ev_aug, ↓SD.ev_if, ↓SD.ev_for, ↓SD.ev_raise, ↓SD.ev_try, ↓SD.ev_var, ↓SD.ev_c, ↓SD.ev_glob, ↓SD.ev_tup, ↓SD.ev_lst, ↓SD.ev_bin, ↓SD.ev_un, ↓SD.ev_b1, ↓SD.ev_tE, ↓SD.ev_tNot, ↓SD.ev_tAnd, ↓SD.ev_tOr, ↓SD.ev_tYes, ↓SD.ev_not, ↓SD.ev_and, ↓SD.ev_or, ↓SD.ev_ifE, ↓SD.ev_cmp, ↓SD.ev_chain, ↓SD.ev_ix, ↓SD.ev_slice, ↓SD.ev_part1, ↓SD.ev_part0, ↓SD.ev_call, ↓SD.ev_callV, ↓SD.ev_app, ↓SD.ev_gVar, ↓SD.ev_gTup, ↓SD.ev_gIx, ↓SD.ev_iE, ↓SD.ev_iRange1, ↓SD.ev_iRange2, ↓SD.ev_iZip, ↓SD.ev_comp, ↓SD.ev_tupC, ↓SD.ev_allC, ↓SD.ev_anyC, ↓SD.ev_cComp, ↓SD.eList, ↓SD.gSeq, ↓SD.look_zero, ↓SD.look_succ, ↓SD.isa_non, ↓SD.isa_bl, ↓SD.isa_int, ↓SD.isa_str, ↓SD.isa_tup, ↓SD.isa_lref, ↓SD.ite_tt, ↓SD.ite_ff, SD.add_1, SD.add_2, SD.add_3, SD.add_4, SD.sub_1, SD.sub_2, SD.mul_1, SD.mul_2, SD.fdiv_1, SD.mod_1, SD.pow_1, SD.neg_1, SD.tr_non, SD.tr_bl, SD.tr_int, SD.tr_str, SD.tr_tup, SD.tr_lref, SD.lt_1, SD.le_1, SD.is_1, SD.is_2, SD.is_3, SD.is_4, SD.is_5, SD.is_6, SD.is_7, SD.cmp_eq, SD.cmp_ne, SD.cmp_lt, SD.cmp_le, SD.cmp_gt, SD.cmp_ge, SD.cmp_is, SD.cmp_isnot, SD.cmp_in, SD.cmp_notin, SD.eqk_int, SD.eqk_bl, SD.ix_tup, SD.ix_lref, SD.len_tup, SD.len_lref, SD.len_str, SD.abs_int, SD.int_int, SD.int_bl, SD.tuple_tup, SD.tuple_lref, SD.list_tup, SD.list_lref, SD.witer_tup, SD.witer_lref, SD.wzip_tup, SD.wipe_nil, SD.wipe_cons, SD.tru_nil, SD.tru_bl, SD.dE, SD.pairs, SD.allD, SD.anyD, SD.atI_0, SD.atI_1, SD.atI_2, SD.atI_3, SD.isa_NoneType_int, SD.isa_NoneType_bool, SD.isa_NoneType_str, SD.isa_NoneType_tuple, SD.isa_NoneType_list, SD.isa_bool_int, SD.isa_bool_bool, SD.isa_bool_str, SD.isa_bool_tuple, SD.isa_bool_list, SD.isa_int_int, SD.isa_int_bool, SD.isa_int_str, SD.isa_int_tuple, SD.isa_int_list, SD.isa_str_int, SD.isa_str_bool, SD.isa_str_str, SD.isa_str_tuple, SD.isa_str_list, SD.isa_tuple_int, SD.isa_tuple_bool, SD.isa_tuple_str, SD.isa_tuple_tuple, SD.isa_tuple_list, SD.isa_list_int, SD.isa_list_bool, SD.isa_list_str, SD.isa_list_tuple, SD.isa_list_list, List.length_cons, List.length_nil, List.map_cons, List.map_nil, List.set_cons_zero, List.set_cons_succ, List.replicate_succ, List.replicate_zero, List.cons_append, List.nil_append, List.zipWith_cons_cons, List.zipWith_nil_left, Nat.add_sub_cancel, Nat.reduceAdd, Nat.reduceSub, Nat.zero_add, Nat.sub_self, and_true, true_and, reduceCtorEq, if_true, if_false, ite_true, ite_false, Bool.false_eq_true, Bool.not_true, Bool.not_false, decide_eq_true_eq, SD.forLoop, SD.compLoop])
theorem ix_wy1 {v : W3} {S : Store} {Q : QV} : ixD (wy v) (.int 1) S Q = Q (fr v.y) S := by unfold wy; ((try simp only [SD.startD, List.length_cons, List.length_nil, List.map_cons, List.map_nil, List.replicate_succ, List.replicate_zero, List.cons_append, List.nil_append, Nat.reduceAdd, Nat.reduceSub, Nat.zero_add]); simp only [↓SD.ev_nil, ↓SD.ev_seq, ↓SD.ev_next, ↓SD.ev_break, ↓SD.ev_cont, ↓SD.ev_expr, ↓SD.ev_ret, ↓SD.ev_retN, ↓SD.ev_asg, ↓SD.ev_aug, ↓SD.ev_if, ↓SD.ev_for, ↓SD.ev_raise, ↓SD.ev_try, ↓SD.ev_var, ↓SD.ev_c, ↓SD.ev_glob, ↓SD.ev_tup, ↓SD.ev_lst, ↓SD.ev_bin, ↓SD.ev_un, ↓SD.ev_b1, ↓SD.ev_tE, ↓SD.ev_tNot, ↓SD.ev_tAnd, ↓SD.ev_tOr, ↓SD.ev_tYes, ↓SD.ev_not, ↓SD.ev_and, ↓SD.ev_or, ↓SD.ev_ifE, ↓SD.ev_cmp, ↓SD.ev_chain, ↓SD.ev_ix, ↓SD.ev_slice, ↓SD.ev_part1, ↓SD.ev_part0, ↓SD.ev_call, ↓SD.ev_callV, ↓SD.ev_app, ↓SD.ev_gVar, ↓SD.ev_gTup, ↓SD.ev_gIx, ↓SD.ev_iE, ↓SD.ev_iRange1, ↓SD.ev_iRange2, ↓SD.ev_iZip, ↓SD.ev_comp, ↓SD.ev_tupC, ↓SD.ev_allC, ↓SD.ev_anyC, ↓SD.ev_cComp, ↓SD.eList, ↓SD.gSeq, ↓SD.look_zero, ↓SD.look_succ, ↓SD.isa_non, ↓SD.isa_bl, ↓SD.isa_int, ↓SD.isa_str, ↓SD.isa_tup, ↓SD.isa_lref, ↓SD.ite_tt, ↓SD.ite_ff, SD.add_1, SD.add_2, SD.add_3, SD.add_4, SD.sub_1, SD.sub_2, SD.mul_1, SD.mul_2, SD.fdiv_1, SD.mod_1, SD.pow_1, SD.neg_1, SD.tr_non, SD.tr_bl, SD.tr_int, SD.tr_str, SD.tr_tup, SD.tr_lref, SD.lt_1, SD.le_1, SD.is_1, SD.is_2, SD.is_3, SD.is_4, SD.is_5, SD.is_6, SD.is_7, SD.cmp_eq, SD.cmp_ne, SD.cmp_lt, SD.cmp_le, SD.cmp_gt, SD.cmp_ge, SD.cmp_is, SD.cmp_isnot, SD.cmp_in, SD.cmp_notin, SD.eqk_int, SD.eqk_bl, SD.ix_tup, SD.ix_lref, SD.len_tup, SD.len_lref, SD.len_str, SD.abs_int, SD.int_int, SD.int_bl, SD.tuple_tup, SD.tuple_lref, SD.list_tup, SD.list_lref, SD.witer_tup, SD.witer_lref, SD.wzip_tup, SD.wipe_nil, SD.wipe_cons, SD.tru_nil, SD.tru_bl, SD.dE, SD.pairs, SD.allD, SD.anyD, SD.atI_0, SD.atI_1, SD.atI_2, SD.atI_3, SD.isa_NoneType_int, SD.isa_NoneType_bool, SD.isa_NoneType_str, SD.isa_NoneType_tuple, SD.isa_NoneType_list, SD.isa_bool_int, SD.isa_bool_bool, SD.isa_bool_str, SD.isa_bool_tuple, SD.isa_bool_list, SD.isa_int_int, SD.isa_int_bool, SD.isa_int_str, SD.isa_int_tuple, SD.isa_int_list, SD.isa_str_int, SD.isa_str_bool, SD.isa_str_str, SD.isa_str_tuple, SD.isa_str_list, SD.isa_tuple_int, SD.isa_tuple_bool, SD.isa_tuple_str, SD.isa_tuple_tuple, SD.isa_tuple_list, SD.isa_list_int, SD.isa_list_bool, SD.isa_list_str, SD.isa_list_tuple, SD.isa_list_list, List.length_cons, List.length_nil, List.map_cons, List.map_nil, List.set_cons_zero, List.set_cons_succ, List.replicate_succ, List.replicate_zero, List.cons_append, List.nil_append, List.zipWith_cons_cons, List.zipWith_nil_left, Nat.add_sub_cancel, Nat.reduceAdd, Nat.reduceSub, Nat.zero_add, Nat.sub_self, and_true, true_and, reduceCtorEq, if_true, if_false, ite_true, ite_false, Bool.false_eq_true, Bool.not_true, Bool.not_false, decide_eq_true_eq, SD.forLoop, SD.compLoop])
theorem ix_wy2 {v : W3} {S : Store} {Q : QV} : ixD (wy v) (.int 2) S Q = Q (fr v.z) S := by unfold wy; ((try simp only [SD.startD, List.length_cons, List.length_nil, List.map_cons, List.map_nil, List.replicate_succ, List.replicate_zero, List.cons_append, List.nil_append, Nat.reduceAdd, Nat.reduceSub, Nat.zero_add]); simp only [↓SD.ev_nil, ↓SD.ev_seq, ↓SD.ev_next, ↓SD.ev_break, ↓SD.ev_cont, ↓SD.ev_expr, ↓SD.ev_ret, ↓SD.ev_retN, ↓SD.ev_asg, ↓SD.ev_aug, ↓SD.ev_if, ↓SD.ev_for, ↓SD.ev_raise, ↓SD.ev_try, ↓SD.ev_var, ↓SD.ev_c, ↓SD.ev_glob, ↓SD.ev_tup, ↓SD.ev_lst, ↓SD.ev_bin, ↓SD.ev_un, ↓SD.ev_b1, ↓SD.ev_tE, ↓SD.ev_tNot, ↓SD.ev_tAnd, ↓SD.ev_tOr, ↓SD.ev_tYes, ↓SD.ev_not, ↓SD.ev_and, ↓SD.ev_or, ↓SD.ev_ifE, ↓SD.ev_cmp, ↓SD.ev_chain, ↓SD.ev_ix, ↓SD.ev_slice, ↓SD.ev_part1, ↓SD.ev_part0, ↓SD.ev_call, ↓SD.ev_callV, ↓SD.ev_app, ↓SD.ev_gVar, ↓SD.ev_gTup, ↓SD.ev_gIx, ↓SD.ev_iE, ↓SD.ev_iRange1, ↓SD.ev_iRange2, ↓SD.ev_iZip, ↓SD.ev_comp, ↓SD.ev_tupC, ↓SD.ev_allC, ↓SD.ev_anyC, ↓SD.ev_cComp, ↓SD.eList, ↓SD.gSeq, ↓SD.look_zero, ↓SD.look_succ, ↓SD.isa_non, ↓SD.isa_bl, ↓SD.isa_int, ↓SD.isa_str, ↓SD.isa_tup, ↓SD.isa_lref, ↓SD.ite_tt, ↓SD.ite_ff, SD.add_1, SD.add_2, SD.add_3, SD.add_4, SD.sub_1, SD.sub_2, SD.mul_1, SD.mul_2, SD.fdiv_1, SD.mod_1, SD.pow_1, SD.neg_1, SD.tr_non, SD.tr_bl, SD.tr_int, SD.tr_str, SD.tr_tup, SD.tr_lref, SD.lt_1, SD.le_1, SD.is_1, SD.is_2, SD.is_3, SD.is_4, SD.is_5, SD.is_6, SD.is_7, SD.cmp_eq, SD.cmp_ne, SD.cmp_lt, SD.cmp_le, SD.cmp_gt, SD.cmp_ge, SD.cmp_is, SD.cmp_isnot, SD.cmp_in, SD.cmp_notin, SD.eqk_int, SD.eqk_bl, SD.ix_tup, SD.ix_lref, SD.len_tup, SD.len_lref, SD.len_str, SD.abs_int, SD.int_int, SD.int_bl, SD.tuple_tup, SD.tuple_lref, SD.list_tup, SD.list_lref, SD.witer_tup, SD.witer_lref, SD.wzip_tup, SD.wipe_nil, SD.wipe_cons, SD.tru_nil, SD.tru_bl, SD.dE, SD.pairs, SD.allD, SD.anyD, SD.atI_0, SD.atI_1, SD.atI_2, SD.atI_3, SD.isa_NoneType_int, SD.isa_NoneType_bool, SD.isa_NoneType_str, SD.isa_NoneType_tuple, SD.isa_NoneType_list, SD.isa_bool_int, SD.isa_bool_bool, SD.isa_bool_str, SD.isa_bool_tuple, SD.isa_bool_list, SD.isa_int_int, SD.isa_int_bool, SD.isa_int_str, SD.isa_int_tuple, SD.isa_int_list, SD.isa_str_int, SD.isa_str_bool, SD.isa_str_str, SD.isa_str_tuple, SD.isa_str_list, SD.isa_tuple_int, SD.isa_tuple_bool, SD.isa_tuple_str, SD.isa_tuple_tuple, SD.isa_tuple_list, SD.isa_list_int, SD.isa_list_bool, SD.isa_list_str, SD.isa_list_tuple, SD.isa_list_list, List.length_cons, List.length_nil, List.map_cons, List.map_nil, List.set_cons_zero, List.set_cons_succ, List.replicate_succ, List.replicate_zero, List.cons_append, List.nil_append, List.zipWith_cons_cons, List.zipWith_nil_left, Nat.add_sub_cancel, Nat.reduceAdd, Nat.reduceSub, Nat.zero_add, Nat.sub_self, and_true, true_and, reduceCtorEq, if_true, if_false, ite_true, ite_false, Bool.false_eq_true, Bool.not_true, Bool.not_false, decide_eq_true_eq, SD.forLoop, SD.compLoop])
theorem small3 : 3 ≤ sizeLine := by rw [sizeLine_eq]; decide
theorem h_sum_of (T : Tab) (h1 : T.sp "added" = some sp_added) : Meets sp_sum_of N_sum_of (t_sum_of T) := by
  rintro ds S E Q hl ⟨v, w, rfl, ⟨hv, hw⟩, h⟩
  unfold t_sum_of N_sum_of
  ((try simp only [SD.startD, List.length_cons, List.length_nil, List.map_cons, List.map_nil, List.replicate_succ, List.replicate_zero, List.cons_append, List.nil_append, Nat.reduceAdd, Nat.reduceSub, Nat.zero_add]); simp only [↓SD.ev_nil, ↓SD.ev_seq, ↓SD.ev_next, ↓SD.ev_break, ↓SD.ev_cont, ↓SD.ev_expr, ↓SD.ev_ret, ↓SD.ev_retN, ↓SD.ev_asg, ↓SD.ev_aug, ↓SD.ev_if, ↓SD.ev_for, ↓SD.ev_raise, ↓SD.ev_try, ↓SD.ev_var, ↓SD.ev_c, ↓SD.ev_glob, ↓SD.ev_tup, ↓SD.ev_lst, ↓SD.ev_bin, ↓SD.ev_un, ↓SD.ev_b1, ↓SD.ev_tE, ↓SD.ev_tNot, ↓SD.ev_tAnd, ↓SD.ev_tOr, ↓SD.ev_tYes, ↓SD.ev_not, ↓SD.ev_and, ↓SD.ev_or, ↓SD.ev_ifE, ↓SD.ev_cmp, ↓SD.ev_chain, ↓SD.ev_ix, ↓SD.ev_slice, ↓SD.ev_part1, ↓SD.ev_part0, ↓SD.ev_call, ↓SD.ev_callV, ↓SD.ev_app, ↓SD.ev_gVar, ↓SD.ev_gTup, ↓SD.ev_gIx, ↓SD.ev_iE, ↓SD.ev_iRange1, ↓SD.ev_iRange2, ↓SD.ev_iZip, ↓SD.ev_comp, ↓SD.ev_tupC, ↓SD.ev_allC, ↓SD.ev_anyC, ↓SD.ev_cComp, ↓SD.eList, ↓SD.gSeq, ↓SD.look_zero, ↓SD.look_succ, ↓SD.isa_non, ↓SD.isa_bl, ↓SD.isa_int, ↓SD.isa_str, ↓SD.isa_tup, ↓SD.isa_lref, ↓SD.ite_tt, ↓SD.ite_ff, SD.add_1, SD.add_2, SD.add_3, SD.add_4, SD.sub_1, SD.sub_2, SD.mul_1, SD.mul_2, SD.fdiv_1, SD.mod_1, SD.pow_1, SD.neg_1, SD.tr_non, SD.tr_bl, SD.tr_int, SD.tr_str, SD.tr_tup, SD.tr_lref, SD.lt_1, SD.le_1, SD.is_1, SD.is_2, SD.is_3, SD.is_4, SD.is_5, SD.is_6, SD.is_7, SD.cmp_eq, SD.cmp_ne, SD.cmp_lt, SD.cmp_le, SD.cmp_gt, SD.cmp_ge, SD.cmp_is, SD.cmp_isnot, SD.cmp_in, SD.cmp_notin, SD.eqk_int, SD.eqk_bl, SD.ix_tup, SD.ix_lref, SD.len_tup, SD.len_lref, SD.len_str, SD.abs_int, SD.int_int, SD.int_bl, SD.tuple_tup, SD.tuple_lref, SD.list_tup, SD.list_lref, SD.witer_tup, SD.witer_lref, SD.wzip_tup, SD.wipe_nil, SD.wipe_cons, SD.tru_nil, SD.tru_bl, SD.dE, SD.pairs, SD.allD, SD.anyD, SD.atI_0, SD.atI_1, SD.atI_2, SD.atI_3, SD.isa_NoneType_int, SD.isa_NoneType_bool, SD.isa_NoneType_str, SD.isa_NoneType_tuple, SD.isa_NoneType_list, SD.isa_bool_int, SD.isa_bool_bool, SD.isa_bool_str, SD.isa_bool_tuple, SD.isa_bool_list, SD.isa_int_int, SD.isa_int_bool, SD.isa_int_str, SD.isa_int_tuple, SD.isa_int_list, SD.isa_str_int, SD.isa_str_bool, SD.isa_str_str, SD.isa_str_tuple, SD.isa_str_list, SD.isa_tuple_int, SD.isa_tuple_bool, SD.isa_tuple_str, SD.isa_tuple_tuple, SD.isa_tuple_list, SD.isa_list_int, SD.isa_list_bool, SD.isa_list_str, SD.isa_list_tuple, SD.isa_list_list, List.length_cons, List.length_nil, List.map_cons, List.map_nil, List.set_cons_zero, List.set_cons_succ, List.replicate_succ, List.replicate_zero, List.cons_append, List.nil_append, List.zipWith_cons_cons, List.zipWith_nil_left, Nat.add_sub_cancel, Nat.reduceAdd, Nat.reduceSub, Nat.zero_add, Nat.sub_self, and_true, true_and, reduceCtorEq, if_true, if_false, ite_true, ite_false, Bool.false_eq_true, Bool.not_true, Bool.not_false, decide_eq_true_eq, SD.forLoop, SD.compLoop, h1, sp_added, spQ2_n, spQ2_fr, wy_mk, zip_wy, it_wy])
  exact ⟨small3, ⟨hv.1, hw.1⟩, ⟨hv.2.1, hw.2.1⟩, ⟨hv.2.2, hw.2.2⟩, trQ_self rfl h⟩
theorem h_less (T : Tab) (h1 : T.sp "added" = some sp_added) (h2 : T.sp "negated" = some sp_negated) : Meets sp_less N_less (t_less T) := by
  rintro ds S E Q hl ⟨v, w, rfl, ⟨hv, hw⟩, h⟩
  unfold t_less N_less
  ((try simp only [SD.startD, List.length_cons, List.length_nil, List.map_cons, List.map_nil, List.replicate_succ, List.replicate_zero, List.cons_append, List.nil_append, Nat.reduceAdd, Nat.reduceSub, Nat.zero_add]); simp only [↓SD.ev_nil, ↓SD.ev_seq, ↓SD.ev_next, ↓SD.ev_break, ↓SD.ev_cont, ↓SD.ev_expr, ↓SD.ev_ret, ↓SD.ev_retN, ↓SD.ev_asg, ↓SD.ev_aug, ↓SD.ev_if, ↓SD.ev_for, ↓SD.ev_raise, ↓SD.ev_try, ↓SD.ev_var, ↓SD.ev_c, ↓SD.ev_glob, ↓SD.ev_tup, ↓SD.ev_lst, ↓SD.ev_bin, ↓SD.ev_un, ↓SD.ev_b1, ↓SD.ev_tE, ↓SD.ev_tNot, ↓SD.ev_tAnd, ↓SD.ev_tOr, ↓SD.ev_tYes, ↓SD.ev_not, ↓SD.ev_and, ↓SD.ev_or, ↓SD.ev_ifE, ↓SD.ev_cmp, ↓SD.ev_chain, ↓SD.ev_ix, ↓SD.ev_slice, ↓SD.ev_part1, ↓SD.ev_part0, ↓SD.ev_call, ↓SD.ev_callV, ↓SD.ev_app, ↓SD.ev_gVar, ↓SD.ev_gTup, ↓SD.ev_gIx, ↓SD.ev_iE, ↓SD.ev_iRange1, ↓SD.ev_iRange2, ↓SD.ev_iZip, ↓SD.ev_comp, ↓SD.ev_tupC, ↓SD.ev_allC, ↓SD.ev_anyC, ↓SD.ev_cComp, ↓SD.eList, ↓SD.gSeq, ↓SD.look_zero, ↓SD.look_succ, ↓SD.isa_non, ↓SD.isa_bl, ↓SD.isa_int, ↓SD.isa_str, ↓SD.isa_tup, ↓SD.isa_lref, ↓SD.ite_tt, ↓SD.ite_ff, SD.add_1, SD.add_2, SD.add_3, SD.add_4, SD.sub_1, SD.sub_2, SD.mul_1, SD.mul_2, SD.fdiv_1, SD.mod_1, SD.pow_1, SD.neg_1, SD.tr_non, SD.tr_bl, SD.tr_int, SD.tr_str, SD.tr_tup, SD.tr_lref, SD.lt_1, SD.le_1, SD.is_1, SD.is_2, SD.is_3, SD.is_4, SD.is_5, SD.is_6, SD.is_7, SD.cmp_eq, SD.cmp_ne, SD.cmp_lt, SD.cmp_le, SD.cmp_gt, SD.cmp_ge, SD.cmp_is, SD.cmp_isnot, SD.cmp_in, SD.cmp_notin, SD.eqk_int, SD.eqk_bl, SD.ix_tup, SD.ix_lref, SD.len_tup, SD.len_lref, SD.len_str, SD.abs_int, SD.int_int, SD.int_bl, SD.tuple_tup, SD.tuple_lref, SD.list_tup, SD.list_lref, SD.witer_tup, SD.witer_lref, SD.wzip_tup, SD.wipe_nil, SD.wipe_cons, SD.tru_nil, SD.tru_bl, SD.dE, SD.pairs, SD.allD, SD.anyD, SD.atI_0, SD.atI_1, SD.atI_2, SD.atI_3, SD.isa_NoneType_int, SD.isa_NoneType_bool, SD.isa_NoneType_str, SD.isa_NoneType_tuple, SD.isa_NoneType_list, SD.isa_bool_int, SD.isa_bool_bool, SD.isa_bool_str, SD.isa_bool_tuple, SD.isa_bool_list, SD.isa_int_int, SD.isa_int_bool, SD.isa_int_str, SD.isa_int_tuple, SD.isa_int_list, SD.isa_str_int, SD.isa_str_bool, SD.isa_str_str, SD.isa_str_tuple, SD.isa_str_list, SD.isa_tuple_int, SD.isa_tuple_bool, SD.isa_tuple_str, SD.isa_tuple_tuple, SD.isa_tuple_list, SD.isa_list_int, SD.isa_list_bool, SD.isa_list_str, SD.isa_list_tuple, SD.isa_list_list, List.length_cons, List.length_nil, List.map_cons, List.map_nil, List.set_cons_zero, List.set_cons_succ, List.replicate_succ, List.replicate_zero, List.cons_append, List.nil_append, List.zipWith_cons_cons, List.zipWith_nil_left, Nat.add_sub_cancel, Nat.reduceAdd, Nat.reduceSub, Nat.zero_add, Nat.sub_self, and_true, true_and, reduceCtorEq, if_true, if_false, ite_true, ite_false, Bool.false_eq_true, Bool.not_true, Bool.not_false, decide_eq_true_eq, SD.forLoop, SD.compLoop, h1, h2, sp_added, sp_negated, spQ2_n, spQ1_n, spQ2_fr, spQ1_fr, wy_mk, zip_wy, it_wy])
  exact ⟨small3, ⟨hv.1, B_neg hw.1⟩, ⟨hv.2.1, B_neg hw.2.1⟩, ⟨hv.2.2, B_neg hw.2.2⟩, trQ_self rfl h⟩
theorem h_scaled (T : Tab) (h1 : T.sp "multiplied" = some sp_multiplied) : Meets sp_scaled N_scaled (t_scaled T) := by
  rintro ds S E Q hl ⟨v, q, rfl, ⟨hv, hq⟩, h⟩
  unfold t_scaled N_scaled
  ((try simp only [SD.startD, List.length_cons, List.length_nil, List.map_cons, List.map_nil, List.replicate_succ, List.replicate_zero, List.cons_append, List.nil_append, Nat.reduceAdd, Nat.reduceSub, Nat.zero_add]); simp only [↓SD.ev_nil, ↓SD.ev_seq, ↓SD.ev_next, ↓SD.ev_break, ↓SD.ev_cont, ↓SD.ev_expr, ↓SD.ev_ret, ↓SD.ev_retN, ↓SD.ev_asg, ↓SD.ev_aug, ↓SD.ev_if, ↓SD.ev_for, ↓SD.ev_raise, ↓SD.ev_try, ↓SD.ev_var, ↓SD.ev_c, ↓SD.ev_glob, ↓SD.ev_tup, ↓SD.ev_lst, ↓SD.ev_bin, ↓SD.ev_un, ↓SD.ev_b1, ↓SD.ev_tE, ↓SD.ev_tNot, ↓SD.ev_tAnd, ↓SD.ev_tOr, ↓SD.ev_tYes, ↓SD.ev_not, ↓SD.ev_and, ↓SD.ev_or, ↓SD.ev_ifE, ↓SD.ev_cmp, ↓SD.ev_chain, ↓SD.ev_ix, ↓SD.ev_slice, ↓SD.ev_part1, ↓SD.ev_part0, ↓SD.ev_call, ↓SD.ev_callV, ↓SD.ev_app, ↓SD.ev_gVar, ↓SD.ev_gTup, ↓SD.ev_gIx, ↓SD.ev_iE, ↓SD.ev_iRange1, ↓SD.ev_iRange2, ↓SD.ev_iZip, ↓SD.ev_comp, ↓SD.ev_tupC, ↓SD.ev_allC, ↓SD.ev_anyC, ↓SD.ev_cComp, ↓SD.eList, ↓SD.gSeq, ↓SD.look_zero, ↓SD.look_succ, ↓SD.isa_non, ↓SD.isa_bl, ↓SD.isa_int, ↓SD.isa_str, ↓SD.isa_tup, ↓SD.isa_lref, ↓SD.ite_tt, ↓SD.ite_ff, SD.add_1, SD.add_2, SD.add_3, SD.add_4, SD.sub_1, SD.sub_2, SD.mul_1, SD.mul_2, SD.fdiv_1, SD.mod_1, SD.pow_1, SD.neg_1, SD.tr_non, SD.tr_bl, SD.tr_int, SD.tr_str, SD.tr_tup, SD.tr_lref, SD.lt_1, SD.le_1, SD.is_1, SD.is_2, SD.is_3, SD.is_4, SD.is_5, SD.is_6, SD.is_7, SD.cmp_eq, SD.cmp_ne, SD.cmp_lt, SD.cmp_le, SD.cmp_gt, SD.cmp_ge, SD.cmp_is, SD.cmp_isnot, SD.cmp_in, SD.cmp_notin, SD.eqk_int, SD.eqk_bl, SD.ix_tup, SD.ix_lref, SD.len_tup, SD.len_lref, SD.len_str, SD.abs_int, SD.int_int, SD.int_bl, SD.tuple_tup, SD.tuple_lref, SD.list_tup, SD.list_lref, SD.witer_tup, SD.witer_lref, SD.wzip_tup, SD.wipe_nil, SD.wipe_cons, SD.tru_nil, SD.tru_bl, SD.dE, SD.pairs, SD.allD, SD.anyD, SD.atI_0, SD.atI_1, SD.atI_2, SD.atI_3, SD.isa_NoneType_int, SD.isa_NoneType_bool, SD.isa_NoneType_str, SD.isa_NoneType_tuple, SD.isa_NoneType_list, SD.isa_bool_int, SD.isa_bool_bool, SD.isa_bool_str, SD.isa_bool_tuple, SD.isa_bool_list, SD.isa_int_int, SD.isa_int_bool, SD.isa_int_str, SD.isa_int_tuple, SD.isa_int_list, SD.isa_str_int, SD.isa_str_bool, SD.isa_str_str, SD.isa_str_tuple, SD.isa_str_list, SD.isa_tuple_int, SD.isa_tuple_bool, SD.isa_tuple_str, SD.isa_tuple_tuple, SD.isa_tuple_list, SD.isa_list_int, SD.isa_list_bool, SD.isa_list_str, SD.isa_list_tuple, SD.isa_list_list, List.length_cons, List.length_nil, List.map_cons, List.map_nil, List.set_cons_zero, List.set_cons_succ, List.replicate_succ, List.replicate_zero, List.cons_append, List.nil_append, List.zipWith_cons_cons, List.zipWith_nil_left, Nat.add_sub_cancel, Nat.reduceAdd, Nat.reduceSub, Nat.zero_add, Nat.sub_self, and_true, true_and, reduceCtorEq, if_true, if_false, ite_true, ite_false, Bool.false_eq_true, Bool.not_true, Bool.not_false, decide_eq_true_eq, SD.forLoop, SD.compLoop, h1, sp_multiplied, spQ2_n, spQ2_fr, wy_mk, it_wy])
  exact ⟨small3, ⟨hv.1, hq⟩, ⟨hv.2.1, hq⟩, ⟨hv.2.2, hq⟩, trQ_self rfl h⟩
end SP

-- SPx
set_option Elab.async false
set_option linter.all false
set_option maxRecDepth 100000
set_option maxHeartbeats 1000000
namespace SP
open PySem L2 SD SL
theorem app_1 {k : Nat} {y : D} {S : Store} {Q : QV} : appendD (.lref k) y S Q = cellL S k fun xs => xs.length < sizeLine ∧ Q .non (S.set k (.lst (xs ++ [y]))) := rfl
theorem set_new {S : Store} {c c' : Cell} : (S ++ [c]).set S.length c' = S ++ [c'] := set_head
theorem range3 : iRange 0 3 = [.int 0, .int 1, .int 2] := rfl
theorem fm_1_3 : Int.fmod 1 3 = 1 := rfl
theorem fm_2_3 : Int.fmod 2 3 = 2 := rfl
theorem fm_3_3 : Int.fmod 3 3 = 0 := rfl
theorem fm_4_3 : Int.fmod 4 3 = 1 := rfl
theorem lt_line {n : Nat} (h : n ≤ 1000) : n < sizeLine := small1000 h
theorem B_inv' {a : Rat} {k : Nat} (h : B k a) : B (k + 1) a⁻¹ := B_inv (Nat.succ_pos k) (h.mono (Nat.le_succ k))
theorem B_dot' {j k : Nat} {v w : W3} (hv : BW j v) (hw : BW k w) : B (3 * (j + k) + 2) (v.dot w) := (B_add (B_add (B_mul hv.1 hw.1) (B_mul hv.2.1 hw.2.1)) (B_mul hv.2.2 hw.2.2)).mono (by omega)
theorem BW_cross' {j k : Nat} {v w : W3} (hv : BW j v) (hw : BW k w) : BW (2 * (j + k) + 1) (v.cross w) :=
  ⟨(B_add (B_mul hv.2.1 hw.2.2) (B_neg (B_mul hv.2.2 hw.2.1))).mono (by omega), (B_add (B_mul hv.2.2 hw.1) (B_neg (B_mul hv.1 hw.2.2))).mono (by omega), (B_add (B_mul hv.1 hw.2.1) (B_neg (B_mul hv.2.1 hw.1))).mono (by omega)⟩
theorem BW.x1 {k : Nat} {v : W3} (h : BW k v) : B k v.x := h.1
theorem BW.y1 {k : Nat} {v : W3} (h : BW k v) : B k v.y := h.2.1
theorem BW.z1 {k : Nat} {v : W3} (h : BW k v) : B k v.z := h.2.2
theorem BW.mono {j k : Nat} {v : W3} (h : BW j v) (l : j ≤ k) : BW k v := ⟨h.1.mono l, h.2.1.mono l, h.2.2.mono l⟩
theorem B_0 : B 1 0 := B_int (n := 0) (by decide) (by decide)
theorem B_1 : B 1 1 := B_int (n := 1) (by decide) (by decide)
theorem Sm_of {j : Nat} {q : Rat} (h : B j q) (l : j ≤ 3900) : Sm q := h.mono l
theorem B_of {j k : Nat} {q : Rat} (h : B j q) (l : j ≤ k) : B k q := h.mono l
theorem BW_of {j k : Nat} {v : W3} (h : BW j v) (l : j ≤ k) : BW k v := h.mono l
/-- two sizes together -/
structure BW2 (n : Nat) (v w : W3) : Prop where
  ex : ∃ j k, BW j v ∧ BW k w ∧ j + k ≤ n
theorem BW2.mk' {n j k : Nat} {v w : W3} (h1 : BW j v) (h2 : BW k w) (h : j + k ≤ n) : BW2 n v w := ⟨j, k, h1, h2, h⟩
end SP
local macro_rules | `(tactic| walk_at "bdx") => `(tactic| first
    | assumption
    | exact SP.B_0
    | exact SP.B_1
    | (apply SP.B_add <;> walk_at "bdx")
    | (apply SP.B_sub <;> walk_at "bdx")
    | (apply SP.B_mul <;> walk_at "bdx")
    | (apply SP.B_neg; walk_at "bdx")
    | (apply SP.B_inv'; walk_at "bdx")
    | (apply SP.B_dot' <;> walk_at "bdx")
    | (apply SP.BW_cross' <;> walk_at "bdx")
    | (apply SP.BW_add <;> walk_at "bdx")
    | (apply SP.BW_sub <;> walk_at "bdx")
    | (apply SP.BW_mul <;> walk_at "bdx")
    | (apply SP.BW.x1; walk_at "bdx")
    | (apply SP.BW.y1; walk_at "bdx")
    | (apply SP.BW.z1; walk_at "bdx"))
local macro_rules | `(tactic| walk_at "side") => `(tactic| first
    | assumption
    | exact trivial
    | decide
    | exact SP.Sm_of (by walk_at "bdx") (by first | decide | omega)
    | exact SP.B_of (by walk_at "bdx") (by first | decide | omega)
    | exact SP.BW_of (by walk_at "bdx") (by first | decide | omega)
    | exact SP.BW2.mk' (by walk_at "bdx") (by walk_at "bdx") (by first | decide | omega)
    | exact SP.lt_line (by decide)
    | exact SD.line1000 (by decide)
    | (refine And.intro ?_ ?_ <;> walk_at "side"))
local macro_rules | `(tactic| walk_at "sides") => `(tactic| repeat (refine And.intro (by walk_at "side") ?_))
namespace SP
open PySem L2 SD SL
def sp_dot : FnD := spW2 (BW2 1900) fun v w => fr (v.dot w)
def sp_cross : FnD := spW2 (BW2 3900) fun v w => wy (v.cross w)
theorem h_dot (T : Tab) (h1 : T.sp "added" = some sp_added) (h2 : T.sp "multiplied" = some sp_multiplied) (h3 : T.glob "ZERO" = some (.tup [.int 0, .int 1])) : Meets sp_dot N_dot (t_dot T) := by
  rintro ds S E Q hl ⟨v, w, rfl, ⟨j, k, hv, hw, hjk⟩, h⟩
  unfold t_dot N_dot
  ((try simp only [SD.startD, List.length_cons, List.length_nil, List.map_cons, List.map_nil, List.replicate_succ, List.replicate_zero, List.cons_append, List.nil_append, Nat.reduceAdd, Nat.reduceSub, Nat.zero_add]); simp only [↓SD.ev_nil, ↓SD.ev_seq, ↓SD.ev_next, ↓SD.ev_break, ↓SD.ev_cont, ↓SD.ev_expr, ↓SD.ev_ret, ↓SD.ev_retN, ↓SD.ev_asg, ↓SD.ev_aug, ↓SD.ev_if, ↓SD.ev_for, ↓SD.ev_raise, ↓SD.ev_try, ↓SD.ev_var, ↓SD.ev_c, ↓SD.ev_glob, ↓SD.ev_tup, ↓SD.ev_lst, ↓SD.ev_bin, ↓SD.ev_un, ↓SD.ev_b1, ↓SD.ev_tE, ↓SD.ev_tNot, ↓SD.ev_tAnd, ↓SD.ev_tOr, ↓SD.ev_tYes, ↓SD.ev_not, ↓SD.ev_and, ↓SD.ev_or, ↓SD.ev_ifE, ↓SD.ev_cmp, ↓SD.ev_chain, ↓SD.ev_ix, ↓SD.ev_slice, ↓SD.ev_part1, ↓SD.ev_part0, ↓SD.ev_call, ↓SD.ev_callV, ↓SD.ev_app, ↓SD.ev_gVar, ↓SD.ev_gTup, ↓SD.ev_gIx, ↓SD.ev_iE, ↓SD.ev_iRange1, ↓SD.ev_iRange2, ↓SD.ev_iZip, ↓SD.ev_comp, ↓SD.ev_tupC, ↓SD.ev_allC, ↓SD.ev_anyC, ↓SD.ev_cComp, ↓SD.eList, ↓SD.gSeq, ↓SD.look_zero, ↓SD.look_succ, ↓SD.isa_non, ↓SD.isa_bl, ↓SD.isa_int, ↓SD.isa_str, ↓SD.isa_tup, ↓SD.isa_lref, ↓SD.ite_tt, ↓SD.ite_ff, SD.add_1, SD.add_2, SD.add_3, SD.add_4, SD.sub_1, SD.sub_2, SD.mul_1, SD.mul_2, SD.fdiv_1, SD.mod_1, SD.pow_1, SD.neg_1, SD.tr_non, SD.tr_bl, SD.tr_int, SD.tr_str, SD.tr_tup, SD.tr_lref, SD.lt_1, SD.le_1, SD.is_1, SD.is_2, SD.is_3, SD.is_4, SD.is_5, SD.is_6, SD.is_7, SD.cmp_eq, SD.cmp_ne, SD.cmp_lt, SD.cmp_le, SD.cmp_gt, SD.cmp_ge, SD.cmp_is, SD.cmp_isnot, SD.cmp_in, SD.cmp_notin, SD.eqk_int, SD.eqk_bl, SD.ix_tup, SD.ix_lref, SD.len_tup, SD.len_lref, SD.len_str, SD.abs_int, SD.int_int, SD.int_bl, SD.tuple_tup, SD.tuple_lref, SD.list_tup, SD.list_lref, SD.witer_tup, SD.witer_lref, SD.wzip_tup, SD.wipe_nil, SD.wipe_cons, SD.tru_nil, SD.tru_bl, SD.dE, SD.pairs, SD.allD, SD.anyD, SD.atI_0, SD.atI_1, SD.atI_2, SD.atI_3, SD.isa_NoneType_int, SD.isa_NoneType_bool, SD.isa_NoneType_str, SD.isa_NoneType_tuple, SD.isa_NoneType_list, SD.isa_bool_int, SD.isa_bool_bool, SD.isa_bool_str, SD.isa_bool_tuple, SD.isa_bool_list, SD.isa_int_int, SD.isa_int_bool, SD.isa_int_str, SD.isa_int_tuple, SD.isa_int_list, SD.isa_str_int, SD.isa_str_bool, SD.isa_str_str, SD.isa_str_tuple, SD.isa_str_list, SD.isa_tuple_int, SD.isa_tuple_bool, SD.isa_tuple_str, SD.isa_tuple_tuple, SD.isa_tuple_list, SD.isa_list_int, SD.isa_list_bool, SD.isa_list_str, SD.isa_list_tuple, SD.isa_list_list, List.length_cons, List.length_nil, List.map_cons, List.map_nil, List.set_cons_zero, List.set_cons_succ, List.replicate_succ, List.replicate_zero, List.cons_append, List.nil_append, List.zipWith_cons_cons, List.zipWith_nil_left, Nat.add_sub_cancel, Nat.reduceAdd, Nat.reduceSub, Nat.zero_add, Nat.sub_self, and_true, true_and, reduceCtorEq, if_true, if_false, ite_true, ite_false, Bool.false_eq_true, Bool.not_true, Bool.not_false, decide_eq_true_eq, SD.forLoop, SD.compLoop, h1, h2, h3, sp_added, sp_multiplied, spQ2_n, spQ2_fr, fr_int, zip_wy])
  have e0 : ((0 : Int) : Rat) + v.x * w.x = v.x * w.x := by
    rw [Rat.intCast_zero, Rat.zero_add]
  rw [e0, Rat.intCast_zero]
  walk_at "sides"
  exact trQ_self rfl h
theorem h_cross (T : Tab) (h1 : T.sp "added" = some sp_added) (h2 : T.sp "multiplied" = some sp_multiplied) (h3 : T.sp "negated" = some sp_negated) : Meets sp_cross N_cross (t_cross T) := by
  rintro ds S E Q hl ⟨v, w, rfl, ⟨j, k, hv, hw, hjk⟩, h⟩
  unfold t_cross N_cross
  ((try simp only [SD.startD, List.length_cons, List.length_nil, List.map_cons, List.map_nil, List.replicate_succ, List.replicate_zero, List.cons_append, List.nil_append, Nat.reduceAdd, Nat.reduceSub, Nat.zero_add]); simp only [↓SD.ev_nil, ↓SD.ev_seq, ↓SD.ev_next, ↓SD.ev_break, ↓SD.ev_cont, ↓SD.ev_expr, ↓SD.ev_ret, ↓SD.ev_retN, ↓SD.ev_asg, ↓SD.ev_aug, ↓SD.ev_if, ↓SD.ev_for, ↓SD.ev_raise, ↓SD.ev_try, ↓SD.ev_var, ↓SD.ev_c, ↓SD.ev_glob, ↓SD.ev_tup, ↓SD.ev_lst, ↓SD.ev_bin, ↓SD.ev_un, ↓SD.ev_b1, ↓SD.ev_tE, ↓SD.ev_tNot, ↓SD.ev_tAnd, ↓SD.ev_tOr, ↓SD.ev_tYes, ↓SD.ev_not, ↓SD.ev_and, ↓SD.ev_or, ↓SD.ev_ifE, ↓SD.ev_cmp, ↓SD.ev_chain, ↓SD.ev_ix, ↓SD.ev_slice, ↓SD.ev_part1, ↓SD.ev_part0, ↓SD.ev_call, ↓SD.ev_callV, ↓SD.ev_app, ↓SD.ev_gVar, ↓SD.ev_gTup, ↓SD.ev_gIx, ↓SD.ev_iE, ↓SD.ev_iRange1, ↓SD.ev_iRange2, ↓SD.ev_iZip, ↓SD.ev_comp, ↓SD.ev_tupC, ↓SD.ev_allC, ↓SD.ev_anyC, ↓SD.ev_cComp, ↓SD.eList, ↓SD.gSeq, ↓SD.look_zero, ↓SD.look_succ, ↓SD.isa_non, ↓SD.isa_bl, ↓SD.isa_int, ↓SD.isa_str, ↓SD.isa_tup, ↓SD.isa_lref, ↓SD.ite_tt, ↓SD.ite_ff, SD.add_1, SD.add_2, SD.add_3, SD.add_4, SD.sub_1, SD.sub_2, SD.mul_1, SD.mul_2, SD.fdiv_1, SD.mod_1, SD.pow_1, SD.neg_1, SD.tr_non, SD.tr_bl, SD.tr_int, SD.tr_str, SD.tr_tup, SD.tr_lref, SD.lt_1, SD.le_1, SD.is_1, SD.is_2, SD.is_3, SD.is_4, SD.is_5, SD.is_6, SD.is_7, SD.cmp_eq, SD.cmp_ne, SD.cmp_lt, SD.cmp_le, SD.cmp_gt, SD.cmp_ge, SD.cmp_is, SD.cmp_isnot, SD.cmp_in, SD.cmp_notin, SD.eqk_int, SD.eqk_bl, SD.ix_tup, SD.ix_lref, SD.len_tup, SD.len_lref, SD.len_str, SD.abs_int, SD.int_int, SD.int_bl, SD.tuple_tup, SD.tuple_lref, SD.list_tup, SD.list_lref, SD.witer_tup, SD.witer_lref, SD.wzip_tup, SD.wipe_nil, SD.wipe_cons, SD.tru_nil, SD.tru_bl, SD.dE, SD.pairs, SD.allD, SD.anyD, SD.atI_0, SD.atI_1, SD.atI_2, SD.atI_3, SD.isa_NoneType_int, SD.isa_NoneType_bool, SD.isa_NoneType_str, SD.isa_NoneType_tuple, SD.isa_NoneType_list, SD.isa_bool_int, SD.isa_bool_bool, SD.isa_bool_str, SD.isa_bool_tuple, SD.isa_bool_list, SD.isa_int_int, SD.isa_int_bool, SD.isa_int_str, SD.isa_int_tuple, SD.isa_int_list, SD.isa_str_int, SD.isa_str_bool, SD.isa_str_str, SD.isa_str_tuple, SD.isa_str_list, SD.isa_tuple_int, SD.isa_tuple_bool, SD.isa_tuple_str, SD.isa_tuple_tuple, SD.isa_tuple_list, SD.isa_list_int, SD.isa_list_bool, SD.isa_list_str, SD.isa_list_tuple, SD.isa_list_list, List.length_cons, List.length_nil, List.map_cons, List.map_nil, List.set_cons_zero, List.set_cons_succ, List.replicate_succ, List.replicate_zero, List.cons_append, List.nil_append, List.zipWith_cons_cons, List.zipWith_nil_left, Nat.add_sub_cancel, Nat.reduceAdd, Nat.reduceSub, Nat.zero_add, Nat.sub_self, and_true, true_and, reduceCtorEq, if_true, if_false, ite_true, ite_false, Bool.false_eq_true, Bool.not_true, Bool.not_false, decide_eq_true_eq, SD.forLoop, SD.compLoop, h1, h2, h3, sp_added, sp_multiplied, sp_negated, spQ2_n, spQ2_fr, spQ1_n, spQ1_fr, range3, Int.reduceAdd, fm_1_3, fm_2_3, fm_3_3, fm_4_3, ix_wy0, ix_wy1, ix_wy2, app_1, cellL_new, set_new, wy_mk])
  walk_at "sides"
  exact trQ_app rfl h
end SP

-- SPy
set_option Elab.async false
set_option linter.all false
set_option maxRecDepth 100000
set_option maxHeartbeats 1000000
namespace SP
open PySem L2 SD SL
/-! ### loops -/
theorem comp_pure {keep : Store → Prop} {g : SG} {t : ST} {e : SE} {env : SD.Env} {S : Store} {p : D → Bool} {f : D → D} (hk : keep S) : ∀ {ds : List D} {Q : QL},
    (∀ d ∈ ds, ∀ (Kt : D → Store → Prop) (Kf : Store → Prop), (if p d = true then Kt (f d) S else Kf S) → g d env S noX fun env1 S1 => t env1 S1 noX fun b S2 => if b = true then e env1 S2 noX (fun y S3 => Kt y S3) else Kf S2) →
    Q ((ds.filter p).map f) S → compLoop keep g t e env ds S Q
  | [], Q, _, q => ⟨hk, q⟩
  | d :: ds, Q, h, q => by
    refine ⟨hk, ?_⟩
    refine h d List.mem_cons_self (fun y S3 => compLoop keep g t e env ds S3 fun ys S4 => Q (y :: ys) S4) (fun S2 => compLoop keep g t e env ds S2 Q) ?_
    cases hp : p d with
    | true =>
      rw [if_pos rfl]
      refine comp_pure hk (fun d' m => h d' (List.mem_cons_of_mem _ m)) ?_
      rw [List.filter_cons_of_pos hp, List.map_cons] at q
      exact q
    | false =>
      rw [if_neg Bool.false_ne_true]
      refine comp_pure hk (fun d' m => h d' (List.mem_cons_of_mem _ m)) ?_
      rw [List.filter_cons_of_neg (by rw [hp]; exact Bool.false_ne_true)] at q
      exact q
theorem comp_map {keep : Store → Prop} {g : SG} {e : SE} {env : SD.Env} {S : Store} {f : D → D} (hk : keep S) {ds : List D} {Q : QL}
    (h : ∀ d ∈ ds, ∀ (Kt : D → Store → Prop), Kt (f d) S → g d env S noX fun env1 S1 => e env1 S1 noX (fun y S3 => Kt y S3)) (q : Q (ds.map f) S) : compLoop keep g tYes e env ds S Q := by
  refine comp_pure (p := fun _ => true) (f := f) hk (fun d m Kt Kf k => ?_) (by rw [List.filter_eq_self.mpr (fun _ _ => rfl)]; exact q)
  exact h d m Kt k
theorem for_inv {keep : Store → Prop} {g : SG} {body : SS} {W : DEnds} (I : Nat → SD.Env → Store → Prop) : ∀ {ds : List D} {j : Nat} {env : SD.Env} {S : Store},
    (∀ i d env S (K : QN), ds[i]? = some d → I (j + i) env S → (∀ env' S', I (j + i + 1) env' S' → K env' S') → keep S ∧ g d env S noX fun env1 S1 => body { W with nx := K, ct := K, bk := W.nx } env1 S1) →
    I j env S → (∀ env S, I (j + ds.length) env S → keep S ∧ W.nx env S) → forLoop keep g body W ds env S
  | [], j, env, S, _, h0, he => he env S h0
  | d :: ds, j, env, S, hs, h0, he => by
    refine hs 0 d env S _ rfl h0 fun env' S' h1 => ?_
    refine for_inv I (j := j + 1) (fun i d' env S K hd hi hk => ?_) h1 (fun env S h => he env S (by rw [List.length_cons, show j + (ds.length + 1) = j + 1 + ds.length by omega]; exact h))
    exact hs (i + 1) d' env S K (by simpa using hd) (by rw [show j + (i + 1) = j + 1 + i by omega]; exact hi) fun env' S' h => hk env' S' (by rw [show j + 1 + i + 1 = j + (i + 1) + 1 by omega]; exact h)
/-! ### ways, further -/
theorem cl_dS {S : Store} {c : Cell} : (S ++ [c]).length = S.length + 1 := by simp
def sp_box : FnD := spW3 (fun u v w => BW2 3900 u v ∧ BW2 1900 (u.cross v) w) fun u v w => fr ((u.cross v).dot w)
theorem h_box (T : Tab) (h1 : T.sp "dot" = some sp_dot) (h2 : T.sp "cross" = some sp_cross) : Meets sp_box N_box (t_box T) := by
  rintro ds S E Q hl ⟨u, v, w, rfl, ⟨h3, h4⟩, h⟩
  unfold t_box N_box
  ((try simp only [SD.startD, List.length_cons, List.length_nil, List.map_cons, List.map_nil, List.replicate_succ, List.replicate_zero, List.cons_append, List.nil_append, Nat.reduceAdd, Nat.reduceSub, Nat.zero_add]); simp only [↓SD.ev_nil, ↓SD.ev_seq, ↓SD.ev_next, ↓SD.ev_break, ↓SD.ev_cont, ↓SD.ev_expr, ↓SD.ev_ret, ↓SD.ev_retN, ↓SD.ev_asg, ↓SD.ev_aug, ↓SD.ev_if, ↓SD.ev_for, ↓SD.ev_raise, ↓SD.ev_try, ↓SD.ev_var, ↓SD.ev_c, ↓SD.ev_glob, ↓SD.ev_tup, ↓SD.ev_lst, ↓SD.ev_bin, ↓SD.ev_un, ↓SD.ev_b1, ↓SD.ev_tE, ↓SD.ev_tNot, ↓SD.ev_tAnd, ↓SD.ev_tOr, ↓SD.ev_tYes, ↓SD.ev_not, ↓SD.ev_and, ↓SD.ev_or, ↓SD.ev_ifE, ↓SD.ev_cmp, ↓SD.ev_chain, ↓SD.ev_ix, ↓SD.ev_slice, ↓SD.ev_part1, ↓SD.ev_part0, ↓SD.ev_call, ↓SD.ev_callV, ↓SD.ev_app, ↓SD.ev_gVar, ↓SD.ev_gTup, ↓SD.ev_gIx, ↓SD.ev_iE, ↓SD.ev_iRange1, ↓SD.ev_iRange2, ↓SD.ev_iZip, ↓SD.ev_comp, ↓SD.ev_tupC, ↓SD.ev_allC, ↓SD.ev_anyC, ↓SD.ev_cComp, ↓SD.eList, ↓SD.gSeq, ↓SD.look_zero, ↓SD.look_succ, ↓SD.isa_non, ↓SD.isa_bl, ↓SD.isa_int, ↓SD.isa_str, ↓SD.isa_tup, ↓SD.isa_lref, ↓SD.ite_tt, ↓SD.ite_ff, SD.add_1, SD.add_2, SD.add_3, SD.add_4, SD.sub_1, SD.sub_2, SD.mul_1, SD.mul_2, SD.fdiv_1, SD.mod_1, SD.pow_1, SD.neg_1, SD.tr_non, SD.tr_bl, SD.tr_int, SD.tr_str, SD.tr_tup, SD.tr_lref, SD.lt_1, SD.le_1, SD.is_1, SD.is_2, SD.is_3, SD.is_4, SD.is_5, SD.is_6, SD.is_7, SD.cmp_eq, SD.cmp_ne, SD.cmp_lt, SD.cmp_le, SD.cmp_gt, SD.cmp_ge, SD.cmp_is, SD.cmp_isnot, SD.cmp_in, SD.cmp_notin, SD.eqk_int, SD.eqk_bl, SD.ix_tup, SD.ix_lref, SD.len_tup, SD.len_lref, SD.len_str, SD.abs_int, SD.int_int, SD.int_bl, SD.tuple_tup, SD.tuple_lref, SD.list_tup, SD.list_lref, SD.witer_tup, SD.witer_lref, SD.wzip_tup, SD.wipe_nil, SD.wipe_cons, SD.tru_nil, SD.tru_bl, SD.dE, SD.pairs, SD.allD, SD.anyD, SD.atI_0, SD.atI_1, SD.atI_2, SD.atI_3, SD.isa_NoneType_int, SD.isa_NoneType_bool, SD.isa_NoneType_str, SD.isa_NoneType_tuple, SD.isa_NoneType_list, SD.isa_bool_int, SD.isa_bool_bool, SD.isa_bool_str, SD.isa_bool_tuple, SD.isa_bool_list, SD.isa_int_int, SD.isa_int_bool, SD.isa_int_str, SD.isa_int_tuple, SD.isa_int_list, SD.isa_str_int, SD.isa_str_bool, SD.isa_str_str, SD.isa_str_tuple, SD.isa_str_list, SD.isa_tuple_int, SD.isa_tuple_bool, SD.isa_tuple_str, SD.isa_tuple_tuple, SD.isa_tuple_list, SD.isa_list_int, SD.isa_list_bool, SD.isa_list_str, SD.isa_list_tuple, SD.isa_list_list, List.length_cons, List.length_nil, List.map_cons, List.map_nil, List.set_cons_zero, List.set_cons_succ, List.replicate_succ, List.replicate_zero, List.cons_append, List.nil_append, List.zipWith_cons_cons, List.zipWith_nil_left, Nat.add_sub_cancel, Nat.reduceAdd, Nat.reduceSub, Nat.zero_add, Nat.sub_self, and_true, true_and, reduceCtorEq, if_true, if_false, ite_true, ite_false, Bool.false_eq_true, Bool.not_true, Bool.not_false, decide_eq_true_eq, SD.forLoop, SD.compLoop, h1, h2, sp_dot, sp_cross, spW2_wy, w_n2])
  walk_at "sides"
  exact trQ_self rfl h
def sp_square : FnD := spW1 (fun v => BW2 1900 v v) fun v => fr (v.dot v)
theorem h_square (T : Tab) (h1 : T.sp "dot" = some sp_dot) : Meets sp_square N_square (t_square T) := by
  rintro ds S E Q hl ⟨v, rfl, hv, h⟩
  unfold t_square N_square
  ((try simp only [SD.startD, List.length_cons, List.length_nil, List.map_cons, List.map_nil, List.replicate_succ, List.replicate_zero, List.cons_append, List.nil_append, Nat.reduceAdd, Nat.reduceSub, Nat.zero_add]); simp only [↓SD.ev_nil, ↓SD.ev_seq, ↓SD.ev_next, ↓SD.ev_break, ↓SD.ev_cont, ↓SD.ev_expr, ↓SD.ev_ret, ↓SD.ev_retN, ↓SD.ev_asg, ↓SD.ev_aug, ↓SD.ev_if, ↓SD.ev_for, ↓SD.ev_raise, ↓SD.ev_try, ↓SD.ev_var, ↓SD.ev_c, ↓SD.ev_glob, ↓SD.ev_tup, ↓SD.ev_lst, ↓SD.ev_bin, ↓SD.ev_un, ↓SD.ev_b1, ↓SD.ev_tE, ↓SD.ev_tNot, ↓SD.ev_tAnd, ↓SD.ev_tOr, ↓SD.ev_tYes, ↓SD.ev_not, ↓SD.ev_and, ↓SD.ev_or, ↓SD.ev_ifE, ↓SD.ev_cmp, ↓SD.ev_chain, ↓SD.ev_ix, ↓SD.ev_slice, ↓SD.ev_part1, ↓SD.ev_part0, ↓SD.ev_call, ↓SD.ev_callV, ↓SD.ev_app, ↓SD.ev_gVar, ↓SD.ev_gTup, ↓SD.ev_gIx, ↓SD.ev_iE, ↓SD.ev_iRange1, ↓SD.ev_iRange2, ↓SD.ev_iZip, ↓SD.ev_comp, ↓SD.ev_tupC, ↓SD.ev_allC, ↓SD.ev_anyC, ↓SD.ev_cComp, ↓SD.eList, ↓SD.gSeq, ↓SD.look_zero, ↓SD.look_succ, ↓SD.isa_non, ↓SD.isa_bl, ↓SD.isa_int, ↓SD.isa_str, ↓SD.isa_tup, ↓SD.isa_lref, ↓SD.ite_tt, ↓SD.ite_ff, SD.add_1, SD.add_2, SD.add_3, SD.add_4, SD.sub_1, SD.sub_2, SD.mul_1, SD.mul_2, SD.fdiv_1, SD.mod_1, SD.pow_1, SD.neg_1, SD.tr_non, SD.tr_bl, SD.tr_int, SD.tr_str, SD.tr_tup, SD.tr_lref, SD.lt_1, SD.le_1, SD.is_1, SD.is_2, SD.is_3, SD.is_4, SD.is_5, SD.is_6, SD.is_7, SD.cmp_eq, SD.cmp_ne, SD.cmp_lt, SD.cmp_le, SD.cmp_gt, SD.cmp_ge, SD.cmp_is, SD.cmp_isnot, SD.cmp_in, SD.cmp_notin, SD.eqk_int, SD.eqk_bl, SD.ix_tup, SD.ix_lref, SD.len_tup, SD.len_lref, SD.len_str, SD.abs_int, SD.int_int, SD.int_bl, SD.tuple_tup, SD.tuple_lref, SD.list_tup, SD.list_lref, SD.witer_tup, SD.witer_lref, SD.wzip_tup, SD.wipe_nil, SD.wipe_cons, SD.tru_nil, SD.tru_bl, SD.dE, SD.pairs, SD.allD, SD.anyD, SD.atI_0, SD.atI_1, SD.atI_2, SD.atI_3, SD.isa_NoneType_int, SD.isa_NoneType_bool, SD.isa_NoneType_str, SD.isa_NoneType_tuple, SD.isa_NoneType_list, SD.isa_bool_int, SD.isa_bool_bool, SD.isa_bool_str, SD.isa_bool_tuple, SD.isa_bool_list, SD.isa_int_int, SD.isa_int_bool, SD.isa_int_str, SD.isa_int_tuple, SD.isa_int_list, SD.isa_str_int, SD.isa_str_bool, SD.isa_str_str, SD.isa_str_tuple, SD.isa_str_list, SD.isa_tuple_int, SD.isa_tuple_bool, SD.isa_tuple_str, SD.isa_tuple_tuple, SD.isa_tuple_list, SD.isa_list_int, SD.isa_list_bool, SD.isa_list_str, SD.isa_list_tuple, SD.isa_list_list, List.length_cons, List.length_nil, List.map_cons, List.map_nil, List.set_cons_zero, List.set_cons_succ, List.replicate_succ, List.replicate_zero, List.cons_append, List.nil_append, List.zipWith_cons_cons, List.zipWith_nil_left, Nat.add_sub_cancel, Nat.reduceAdd, Nat.reduceSub, Nat.zero_add, Nat.sub_self, and_true, true_and, reduceCtorEq, if_true, if_false, ite_true, ite_false, Bool.false_eq_true, Bool.not_true, Bool.not_false, decide_eq_true_eq, SD.forLoop, SD.compLoop, h1, sp_dot, spW2_wy, w_n2])
  walk_at "sides"
  exact trQ_self rfl h
/-- the first part that is not 0 -/
def W3.lead (v : W3) : Rat := if v.x ≠ 0 then v.x else if v.y ≠ 0 then v.y else v.z
def sp_lean : FnD := spW1 (fun v => BW 1900 v ∧ v ≠ .zero) fun v => wy (v.mul v.lead⁻¹)
theorem num_ne {q : Rat} : (q.num != 0) = decide (q ≠ 0) := by
  by_cases h : q = 0
  · subst h; rfl
  · have : q.num ≠ 0 := fun z => h (Rat.num_eq_zero.mp z)
    simp [h, this]
theorem ne_zero_iff {v : W3} : v ≠ .zero ↔ v.x ≠ 0 ∨ v.y ≠ 0 ∨ v.z ≠ 0 := by
  cases v with
  | mk a b c =>
    unfold W3.zero
    simp only [ne_eq, W3.mk.injEq]
    by_cases h1 : a = 0 <;> by_cases h2 : b = 0 <;> by_cases h3 : c = 0 <;> simp [h1, h2, h3]
theorem lead_ne {v : W3} (h : v ≠ .zero) : v.lead ≠ 0 := by
  unfold W3.lead
  rcases ne_zero_iff.mp h with h | h | h
  · rw [if_pos h]; exact h
  · split
    · assumption
    · first | exact h | (rw [if_pos h]; exact h)
  · split
    · assumption
    · split
      · assumption
      · exact h
theorem B_lead {k : Nat} {v : W3} (h : BW k v) : B k v.lead := by
  unfold W3.lead
  split
  · exact h.x1
  · split
    · exact h.y1
    · exact h.z1
def nzD (d : D) : Bool := decide (toQ d ≠ some 0)
theorem nz_fr {q : Rat} : nzD (fr q) = decide (q ≠ 0) := by
  unfold nzD
  rw [toQ_fr]
  by_cases h : q = 0
  · subst h; rfl
  · rw [decide_eq_true h]
    exact decide_eq_true (fun z => h (Option.some.inj z))
theorem lead_list {v : W3} (h : v ≠ .zero) : ∃ l, ([fr v.x, fr v.y, fr v.z].filter nzD).map id = fr v.lead :: l := by
  unfold W3.lead
  rw [List.map_id]
  by_cases hx : v.x ≠ 0
  · rw [if_pos hx, List.filter_cons_of_pos (by rw [nz_fr]; exact decide_eq_true hx)]
    exact ⟨_, rfl⟩
  · rw [if_neg hx, List.filter_cons_of_neg (by rw [nz_fr]; simpa using hx)]
    by_cases hy : v.y ≠ 0
    · rw [if_pos hy, List.filter_cons_of_pos (by rw [nz_fr]; exact decide_eq_true hy)]
      exact ⟨_, rfl⟩
    · rw [if_neg hy, List.filter_cons_of_neg (by rw [nz_fr]; simpa using hy)]
      have hz : v.z ≠ 0 := by
        rcases ne_zero_iff.mp h with z | z | z
        · exact absurd z hx
        · exact absurd z hy
        · exact z
      rw [List.filter_cons_of_pos (by rw [nz_fr]; exact decide_eq_true hz)]
      exact ⟨_, rfl⟩
theorem h_lean (T : Tab) (h1 : T.sp "scaled" = some sp_scaled) (h2 : T.sp "turned" = some sp_turned) : Meets sp_lean N_lean (t_lean T) := by
  rintro ds S E Q hl ⟨v, rfl, ⟨hv, h0⟩, h⟩
  unfold t_lean N_lean
  have hl0 := lead_ne h0
  have hB := B_lead hv
  obtain ⟨l, hl⟩ := lead_list h0
  ((try simp only [SD.startD, List.length_cons, List.length_nil, List.map_cons, List.map_nil, List.replicate_succ, List.replicate_zero, List.cons_append, List.nil_append, Nat.reduceAdd, Nat.reduceSub, Nat.zero_add]); simp only [↓SD.ev_nil, ↓SD.ev_seq, ↓SD.ev_next, ↓SD.ev_break, ↓SD.ev_cont, ↓SD.ev_expr, ↓SD.ev_ret, ↓SD.ev_retN, ↓SD.ev_asg, ↓SD.ev_aug, ↓SD.ev_if, ↓SD.ev_for, ↓SD.ev_raise, ↓SD.ev_try, ↓SD.ev_var, ↓SD.ev_c, ↓SD.ev_glob, ↓SD.ev_tup, ↓SD.ev_lst, ↓SD.ev_bin, ↓SD.ev_un, ↓SD.ev_b1, ↓SD.ev_tE, ↓SD.ev_tNot, ↓SD.ev_tAnd, ↓SD.ev_tOr, ↓SD.ev_tYes, ↓SD.ev_not, ↓SD.ev_and, ↓SD.ev_or, ↓SD.ev_ifE, ↓SD.ev_cmp, ↓SD.ev_chain, ↓SD.ev_ix, ↓SD.ev_slice, ↓SD.ev_part1, ↓SD.ev_part0, ↓SD.ev_call, ↓SD.ev_callV, ↓SD.ev_app, ↓SD.ev_gVar, ↓SD.ev_gTup, ↓SD.ev_gIx, ↓SD.ev_iE, ↓SD.ev_iRange1, ↓SD.ev_iRange2, ↓SD.ev_iZip, ↓SD.ev_comp, ↓SD.ev_tupC, ↓SD.ev_allC, ↓SD.ev_anyC, ↓SD.ev_cComp, ↓SD.eList, ↓SD.gSeq, ↓SD.look_zero, ↓SD.look_succ, ↓SD.isa_non, ↓SD.isa_bl, ↓SD.isa_int, ↓SD.isa_str, ↓SD.isa_tup, ↓SD.isa_lref, ↓SD.ite_tt, ↓SD.ite_ff, SD.add_1, SD.add_2, SD.add_3, SD.add_4, SD.sub_1, SD.sub_2, SD.mul_1, SD.mul_2, SD.fdiv_1, SD.mod_1, SD.pow_1, SD.neg_1, SD.tr_non, SD.tr_bl, SD.tr_int, SD.tr_str, SD.tr_tup, SD.tr_lref, SD.lt_1, SD.le_1, SD.is_1, SD.is_2, SD.is_3, SD.is_4, SD.is_5, SD.is_6, SD.is_7, SD.cmp_eq, SD.cmp_ne, SD.cmp_lt, SD.cmp_le, SD.cmp_gt, SD.cmp_ge, SD.cmp_is, SD.cmp_isnot, SD.cmp_in, SD.cmp_notin, SD.eqk_int, SD.eqk_bl, SD.ix_tup, SD.ix_lref, SD.len_tup, SD.len_lref, SD.len_str, SD.abs_int, SD.int_int, SD.int_bl, SD.tuple_tup, SD.tuple_lref, SD.list_tup, SD.list_lref, SD.witer_tup, SD.witer_lref, SD.wzip_tup, SD.wipe_nil, SD.wipe_cons, SD.tru_nil, SD.tru_bl, SD.dE, SD.pairs, SD.allD, SD.anyD, SD.atI_0, SD.atI_1, SD.atI_2, SD.atI_3, SD.isa_NoneType_int, SD.isa_NoneType_bool, SD.isa_NoneType_str, SD.isa_NoneType_tuple, SD.isa_NoneType_list, SD.isa_bool_int, SD.isa_bool_bool, SD.isa_bool_str, SD.isa_bool_tuple, SD.isa_bool_list, SD.isa_int_int, SD.isa_int_bool, SD.isa_int_str, SD.isa_int_tuple, SD.isa_int_list, SD.isa_str_int, SD.isa_str_bool, SD.isa_str_str, SD.isa_str_tuple, SD.isa_str_list, SD.isa_tuple_int, SD.isa_tuple_bool, SD.isa_tuple_str, SD.isa_tuple_tuple, SD.isa_tuple_list, SD.isa_list_int, SD.isa_list_bool, SD.isa_list_str, SD.isa_list_tuple, SD.isa_list_list, List.length_cons, List.length_nil, List.map_cons, List.map_nil, List.set_cons_zero, List.set_cons_succ, List.replicate_succ, List.replicate_zero, List.cons_append, List.nil_append, List.zipWith_cons_cons, List.zipWith_nil_left, Nat.add_sub_cancel, Nat.reduceAdd, Nat.reduceSub, Nat.zero_add, Nat.sub_self, and_true, true_and, reduceCtorEq, if_true, if_false, ite_true, ite_false, Bool.false_eq_true, Bool.not_true, Bool.not_false, decide_eq_true_eq, it_wy])
  refine ⟨small3, comp_pure (p := nzD) (f := id) trivial (fun d m Kt Kf k => ?_) ?_⟩
  · obtain ⟨q, rfl⟩ : ∃ q, d = fr q := by
      simp only [List.mem_cons, List.not_mem_nil, or_false] at m
      rcases m with m | m | m <;> exact ⟨_, m⟩
    rw [nz_fr] at k
    ((try simp only [SD.startD, List.length_cons, List.length_nil, List.map_cons, List.map_nil, List.replicate_succ, List.replicate_zero, List.cons_append, List.nil_append, Nat.reduceAdd, Nat.reduceSub, Nat.zero_add]); simp only [↓SD.ev_nil, ↓SD.ev_seq, ↓SD.ev_next, ↓SD.ev_break, ↓SD.ev_cont, ↓SD.ev_expr, ↓SD.ev_ret, ↓SD.ev_retN, ↓SD.ev_asg, ↓SD.ev_aug, ↓SD.ev_if, ↓SD.ev_for, ↓SD.ev_raise, ↓SD.ev_try, ↓SD.ev_var, ↓SD.ev_c, ↓SD.ev_glob, ↓SD.ev_tup, ↓SD.ev_lst, ↓SD.ev_bin, ↓SD.ev_un, ↓SD.ev_b1, ↓SD.ev_tE, ↓SD.ev_tNot, ↓SD.ev_tAnd, ↓SD.ev_tOr, ↓SD.ev_tYes, ↓SD.ev_not, ↓SD.ev_and, ↓SD.ev_or, ↓SD.ev_ifE, ↓SD.ev_cmp, ↓SD.ev_chain, ↓SD.ev_ix, ↓SD.ev_slice, ↓SD.ev_part1, ↓SD.ev_part0, ↓SD.ev_call, ↓SD.ev_callV, ↓SD.ev_app, ↓SD.ev_gVar, ↓SD.ev_gTup, ↓SD.ev_gIx, ↓SD.ev_iE, ↓SD.ev_iRange1, ↓SD.ev_iRange2, ↓SD.ev_iZip, ↓SD.ev_comp, ↓SD.ev_tupC, ↓SD.ev_allC, ↓SD.ev_anyC, ↓SD.ev_cComp, ↓SD.eList, ↓SD.gSeq, ↓SD.look_zero, ↓SD.look_succ, ↓SD.isa_non, ↓SD.isa_bl, ↓SD.isa_int, ↓SD.isa_str, ↓SD.isa_tup, ↓SD.isa_lref, ↓SD.ite_tt, ↓SD.ite_ff, SD.add_1, SD.add_2, SD.add_3, SD.add_4, SD.sub_1, SD.sub_2, SD.mul_1, SD.mul_2, SD.fdiv_1, SD.mod_1, SD.pow_1, SD.neg_1, SD.tr_non, SD.tr_bl, SD.tr_int, SD.tr_str, SD.tr_tup, SD.tr_lref, SD.lt_1, SD.le_1, SD.is_1, SD.is_2, SD.is_3, SD.is_4, SD.is_5, SD.is_6, SD.is_7, SD.cmp_eq, SD.cmp_ne, SD.cmp_lt, SD.cmp_le, SD.cmp_gt, SD.cmp_ge, SD.cmp_is, SD.cmp_isnot, SD.cmp_in, SD.cmp_notin, SD.eqk_int, SD.eqk_bl, SD.ix_tup, SD.ix_lref, SD.len_tup, SD.len_lref, SD.len_str, SD.abs_int, SD.int_int, SD.int_bl, SD.tuple_tup, SD.tuple_lref, SD.list_tup, SD.list_lref, SD.witer_tup, SD.witer_lref, SD.wzip_tup, SD.wipe_nil, SD.wipe_cons, SD.tru_nil, SD.tru_bl, SD.dE, SD.pairs, SD.allD, SD.anyD, SD.atI_0, SD.atI_1, SD.atI_2, SD.atI_3, SD.isa_NoneType_int, SD.isa_NoneType_bool, SD.isa_NoneType_str, SD.isa_NoneType_tuple, SD.isa_NoneType_list, SD.isa_bool_int, SD.isa_bool_bool, SD.isa_bool_str, SD.isa_bool_tuple, SD.isa_bool_list, SD.isa_int_int, SD.isa_int_bool, SD.isa_int_str, SD.isa_int_tuple, SD.isa_int_list, SD.isa_str_int, SD.isa_str_bool, SD.isa_str_str, SD.isa_str_tuple, SD.isa_str_list, SD.isa_tuple_int, SD.isa_tuple_bool, SD.isa_tuple_str, SD.isa_tuple_tuple, SD.isa_tuple_list, SD.isa_list_int, SD.isa_list_bool, SD.isa_list_str, SD.isa_list_tuple, SD.isa_list_list, List.length_cons, List.length_nil, List.map_cons, List.map_nil, List.set_cons_zero, List.set_cons_succ, List.replicate_succ, List.replicate_zero, List.cons_append, List.nil_append, List.zipWith_cons_cons, List.zipWith_nil_left, Nat.add_sub_cancel, Nat.reduceAdd, Nat.reduceSub, Nat.zero_add, Nat.sub_self, and_true, true_and, reduceCtorEq, if_true, if_false, ite_true, ite_false, Bool.false_eq_true, Bool.not_true, Bool.not_false, decide_eq_true_eq, SD.forLoop, SD.compLoop, ix_fr0, num_ne])
    simpa using k
  · rw [hl]
    ((try simp only [SD.startD, List.length_cons, List.length_nil, List.map_cons, List.map_nil, List.replicate_succ, List.replicate_zero, List.cons_append, List.nil_append, Nat.reduceAdd, Nat.reduceSub, Nat.zero_add]); simp only [↓SD.ev_nil, ↓SD.ev_seq, ↓SD.ev_next, ↓SD.ev_break, ↓SD.ev_cont, ↓SD.ev_expr, ↓SD.ev_ret, ↓SD.ev_retN, ↓SD.ev_asg, ↓SD.ev_aug, ↓SD.ev_if, ↓SD.ev_for, ↓SD.ev_raise, ↓SD.ev_try, ↓SD.ev_var, ↓SD.ev_c, ↓SD.ev_glob, ↓SD.ev_tup, ↓SD.ev_lst, ↓SD.ev_bin, ↓SD.ev_un, ↓SD.ev_b1, ↓SD.ev_tE, ↓SD.ev_tNot, ↓SD.ev_tAnd, ↓SD.ev_tOr, ↓SD.ev_tYes, ↓SD.ev_not, ↓SD.ev_and, ↓SD.ev_or, ↓SD.ev_ifE, ↓SD.ev_cmp, ↓SD.ev_chain, ↓SD.ev_ix, ↓SD.ev_slice, ↓SD.ev_part1, ↓SD.ev_part0, ↓SD.ev_call, ↓SD.ev_callV, ↓SD.ev_app, ↓SD.ev_gVar, ↓SD.ev_gTup, ↓SD.ev_gIx, ↓SD.ev_iE, ↓SD.ev_iRange1, ↓SD.ev_iRange2, ↓SD.ev_iZip, ↓SD.ev_comp, ↓SD.ev_tupC, ↓SD.ev_allC, ↓SD.ev_anyC, ↓SD.ev_cComp, ↓SD.eList, ↓SD.gSeq, ↓SD.look_zero, ↓SD.look_succ, ↓SD.isa_non, ↓SD.isa_bl, ↓SD.isa_int, ↓SD.isa_str, ↓SD.isa_tup, ↓SD.isa_lref, ↓SD.ite_tt, ↓SD.ite_ff, SD.add_1, SD.add_2, SD.add_3, SD.add_4, SD.sub_1, SD.sub_2, SD.mul_1, SD.mul_2, SD.fdiv_1, SD.mod_1, SD.pow_1, SD.neg_1, SD.tr_non, SD.tr_bl, SD.tr_int, SD.tr_str, SD.tr_tup, SD.tr_lref, SD.lt_1, SD.le_1, SD.is_1, SD.is_2, SD.is_3, SD.is_4, SD.is_5, SD.is_6, SD.is_7, SD.cmp_eq, SD.cmp_ne, SD.cmp_lt, SD.cmp_le, SD.cmp_gt, SD.cmp_ge, SD.cmp_is, SD.cmp_isnot, SD.cmp_in, SD.cmp_notin, SD.eqk_int, SD.eqk_bl, SD.ix_tup, SD.ix_lref, SD.len_tup, SD.len_lref, SD.len_str, SD.abs_int, SD.int_int, SD.int_bl, SD.tuple_tup, SD.tuple_lref, SD.list_tup, SD.list_lref, SD.witer_tup, SD.witer_lref, SD.wzip_tup, SD.wipe_nil, SD.wipe_cons, SD.tru_nil, SD.tru_bl, SD.dE, SD.pairs, SD.allD, SD.anyD, SD.atI_0, SD.atI_1, SD.atI_2, SD.atI_3, SD.isa_NoneType_int, SD.isa_NoneType_bool, SD.isa_NoneType_str, SD.isa_NoneType_tuple, SD.isa_NoneType_list, SD.isa_bool_int, SD.isa_bool_bool, SD.isa_bool_str, SD.isa_bool_tuple, SD.isa_bool_list, SD.isa_int_int, SD.isa_int_bool, SD.isa_int_str, SD.isa_int_tuple, SD.isa_int_list, SD.isa_str_int, SD.isa_str_bool, SD.isa_str_str, SD.isa_str_tuple, SD.isa_str_list, SD.isa_tuple_int, SD.isa_tuple_bool, SD.isa_tuple_str, SD.isa_tuple_tuple, SD.isa_tuple_list, SD.isa_list_int, SD.isa_list_bool, SD.isa_list_str, SD.isa_list_tuple, SD.isa_list_list, List.length_cons, List.length_nil, List.map_cons, List.map_nil, List.set_cons_zero, List.set_cons_succ, List.replicate_succ, List.replicate_zero, List.cons_append, List.nil_append, List.zipWith_cons_cons, List.zipWith_nil_left, Nat.add_sub_cancel, Nat.reduceAdd, Nat.reduceSub, Nat.zero_add, Nat.sub_self, and_true, true_and, reduceCtorEq, if_true, if_false, ite_true, ite_false, Bool.false_eq_true, Bool.not_true, Bool.not_false, decide_eq_true_eq, SD.forLoop, SD.compLoop, cellL_new, h1, h2, sp_turned, spQ1_n, spQ1_fr, sp_scaled, w_nQ, spWQ_wy])
    walk_at "sides"
    exact trQ_app rfl h
end SP

-- SPz
set_option Elab.async false
set_option linter.all false
set_option maxRecDepth 100000
set_option maxHeartbeats 1000000
namespace SP
open PySem L2 SD SL
def sp_sign_of : FnD := spQ1 (fun _ => True) fun q => .int q.num.sign
theorem sign_b2i (n : Int) : b2i (decide (0 < n)) - b2i (decide (n < 0)) = n.sign := by
  rcases Int.lt_trichotomy n 0 with h | h | h
  · rw [decide_eq_false (by omega), decide_eq_true h, Int.sign_eq_neg_one_of_neg h]; rfl
  · subst h; rfl
  · rw [decide_eq_true h, decide_eq_false (by omega), Int.sign_eq_one_of_pos h]; rfl
theorem h_sign_of (T : Tab) : Meets sp_sign_of N_sign_of (t_sign_of T) := by
  refine q1_in fun q S E Q _ h => ?_
  unfold t_sign_of N_sign_of
  ((try simp only [SD.startD, List.length_cons, List.length_nil, List.map_cons, List.map_nil, List.replicate_succ, List.replicate_zero, List.cons_append, List.nil_append, Nat.reduceAdd, Nat.reduceSub, Nat.zero_add]); simp only [↓SD.ev_nil, ↓SD.ev_seq, ↓SD.ev_next, ↓SD.ev_break, ↓SD.ev_cont, ↓SD.ev_expr, ↓SD.ev_ret, ↓SD.ev_retN, ↓SD.ev_asg, ↓SD.ev_aug, ↓SD.ev_if, ↓SD.ev_for, ↓SD.ev_raise, ↓SD.ev_try, ↓SD.ev_var, ↓SD.ev_c, ↓SD.ev_glob, ↓SD.ev_tup, ↓SD.ev_lst, ↓SD.ev_bin, ↓SD.ev_un, ↓SD.ev_b1, ↓SD.ev_tE, ↓SD.ev_tNot, ↓SD.ev_tAnd, ↓SD.ev_tOr, ↓SD.ev_tYes, ↓SD.ev_not, ↓SD.ev_and, ↓SD.ev_or, ↓SD.ev_ifE, ↓SD.ev_cmp, ↓SD.ev_chain, ↓SD.ev_ix, ↓SD.ev_slice, ↓SD.ev_part1, ↓SD.ev_part0, ↓SD.ev_call, ↓SD.ev_callV, ↓SD.ev_app, ↓SD.ev_gVar, ↓SD.ev_gTup, ↓SD.ev_gIx, ↓SD.ev_iE, ↓SD.ev_iRange1, ↓SD.ev_iRange2, ↓SD.ev_iZip, ↓SD.ev_comp, ↓SD.ev_tupC, ↓SD.ev_allC, ↓SD.ev_anyC, ↓SD.ev_cComp, ↓SD.eList, ↓SD.gSeq, ↓SD.look_zero, ↓SD.look_succ, ↓SD.isa_non, ↓SD.isa_bl, ↓SD.isa_int, ↓SD.isa_str, ↓SD.isa_tup, ↓SD.isa_lref, ↓SD.ite_tt, ↓SD.ite_ff, SD.add_1, SD.add_2, SD.add_3, SD.add_4, SD.sub_1, SD.sub_2, SD.mul_1, SD.mul_2, SD.fdiv_1, SD.mod_1, SD.pow_1, SD.neg_1, SD.tr_non, SD.tr_bl, SD.tr_int, SD.tr_str, SD.tr_tup, SD.tr_lref, SD.lt_1, SD.le_1, SD.is_1, SD.is_2, SD.is_3, SD.is_4, SD.is_5, SD.is_6, SD.is_7, SD.cmp_eq, SD.cmp_ne, SD.cmp_lt, SD.cmp_le, SD.cmp_gt, SD.cmp_ge, SD.cmp_is, SD.cmp_isnot, SD.cmp_in, SD.cmp_notin, SD.eqk_int, SD.eqk_bl, SD.ix_tup, SD.ix_lref, SD.len_tup, SD.len_lref, SD.len_str, SD.abs_int, SD.int_int, SD.int_bl, SD.tuple_tup, SD.tuple_lref, SD.list_tup, SD.list_lref, SD.witer_tup, SD.witer_lref, SD.wzip_tup, SD.wipe_nil, SD.wipe_cons, SD.tru_nil, SD.tru_bl, SD.dE, SD.pairs, SD.allD, SD.anyD, SD.atI_0, SD.atI_1, SD.atI_2, SD.atI_3, SD.isa_NoneType_int, SD.isa_NoneType_bool, SD.isa_NoneType_str, SD.isa_NoneType_tuple, SD.isa_NoneType_list, SD.isa_bool_int, SD.isa_bool_bool, SD.isa_bool_str, SD.isa_bool_tuple, SD.isa_bool_list, SD.isa_int_int, SD.isa_int_bool, SD.isa_int_str, SD.isa_int_tuple, SD.isa_int_list, SD.isa_str_int, SD.isa_str_bool, SD.isa_str_str, SD.isa_str_tuple, SD.isa_str_list, SD.isa_tuple_int, SD.isa_tuple_bool, SD.isa_tuple_str, SD.isa_tuple_tuple, SD.isa_tuple_list, SD.isa_list_int, SD.isa_list_bool, SD.isa_list_str, SD.isa_list_tuple, SD.isa_list_list, List.length_cons, List.length_nil, List.map_cons, List.map_nil, List.set_cons_zero, List.set_cons_succ, List.replicate_succ, List.replicate_zero, List.cons_append, List.nil_append, List.zipWith_cons_cons, List.zipWith_nil_left, Nat.add_sub_cancel, Nat.reduceAdd, Nat.reduceSub, Nat.zero_add, Nat.sub_self, and_true, true_and, reduceCtorEq, if_true, if_false, ite_true, ite_false, Bool.false_eq_true, Bool.not_true, Bool.not_false, decide_eq_true_eq, SD.forLoop, SD.compLoop, ix_fr0, sign_b2i])
  exact trQ_self rfl h
/-- an angle: the sign and the square of its cosine -/
def angD (s : Int) (q : Rat) : D := .tup [.int s, fr q]
def W3.cosS (v w : W3) : Int := (v.dot w).num.sign
def W3.cosQ (v w : W3) : Rat := v.dot w * v.dot w * (v.dot v * w.dot w)⁻¹
def sp_cosine : FnD := spW2 (fun v w => BW 50 v ∧ BW 50 w ∧ v.dot v ≠ 0 ∧ w.dot w ≠ 0) fun v w => angD (v.cosS w) (v.cosQ w)
theorem h_cosine (T : Tab) (h1 : T.sp "dot" = some sp_dot) (h2 : T.sp "multiplied" = some sp_multiplied) (h3 : T.sp "square" = some sp_square) (h4 : T.sp "sign_of" = some sp_sign_of) (h5 : T.sp "turned" = some sp_turned) : Meets sp_cosine N_cosine (t_cosine T) := by
  rintro ds S E Q hl ⟨v, w, rfl, ⟨hv, hw, hv0, hw0⟩, h⟩
  unfold t_cosine N_cosine
  have hm : v.dot v * w.dot w ≠ 0 := fun z => (Rat.mul_eq_zero.mp z).elim hv0 hw0
  ((try simp only [SD.startD, List.length_cons, List.length_nil, List.map_cons, List.map_nil, List.replicate_succ, List.replicate_zero, List.cons_append, List.nil_append, Nat.reduceAdd, Nat.reduceSub, Nat.zero_add]); simp only [↓SD.ev_nil, ↓SD.ev_seq, ↓SD.ev_next, ↓SD.ev_break, ↓SD.ev_cont, ↓SD.ev_expr, ↓SD.ev_ret, ↓SD.ev_retN, ↓SD.ev_asg, ↓SD.ev_aug, ↓SD.ev_if, ↓SD.ev_for, ↓SD.ev_raise, ↓SD.ev_try, ↓SD.ev_var, ↓SD.ev_c, ↓SD.ev_glob, ↓SD.ev_tup, ↓SD.ev_lst, ↓SD.ev_bin, ↓SD.ev_un, ↓SD.ev_b1, ↓SD.ev_tE, ↓SD.ev_tNot, ↓SD.ev_tAnd, ↓SD.ev_tOr, ↓SD.ev_tYes, ↓SD.ev_not, ↓SD.ev_and, ↓SD.ev_or, ↓SD.ev_ifE, ↓SD.ev_cmp, ↓SD.ev_chain, ↓SD.ev_ix, ↓SD.ev_slice, ↓SD.ev_part1, ↓SD.ev_part0, ↓SD.ev_call, ↓SD.ev_callV, ↓SD.ev_app, ↓SD.ev_gVar, ↓SD.ev_gTup, ↓SD.ev_gIx, ↓SD.ev_iE, ↓SD.ev_iRange1, ↓SD.ev_iRange2, ↓SD.ev_iZip, ↓SD.ev_comp, ↓SD.ev_tupC, ↓SD.ev_allC, ↓SD.ev_anyC, ↓SD.ev_cComp, ↓SD.eList, ↓SD.gSeq, ↓SD.look_zero, ↓SD.look_succ, ↓SD.isa_non, ↓SD.isa_bl, ↓SD.isa_int, ↓SD.isa_str, ↓SD.isa_tup, ↓SD.isa_lref, ↓SD.ite_tt, ↓SD.ite_ff, SD.add_1, SD.add_2, SD.add_3, SD.add_4, SD.sub_1, SD.sub_2, SD.mul_1, SD.mul_2, SD.fdiv_1, SD.mod_1, SD.pow_1, SD.neg_1, SD.tr_non, SD.tr_bl, SD.tr_int, SD.tr_str, SD.tr_tup, SD.tr_lref, SD.lt_1, SD.le_1, SD.is_1, SD.is_2, SD.is_3, SD.is_4, SD.is_5, SD.is_6, SD.is_7, SD.cmp_eq, SD.cmp_ne, SD.cmp_lt, SD.cmp_le, SD.cmp_gt, SD.cmp_ge, SD.cmp_is, SD.cmp_isnot, SD.cmp_in, SD.cmp_notin, SD.eqk_int, SD.eqk_bl, SD.ix_tup, SD.ix_lref, SD.len_tup, SD.len_lref, SD.len_str, SD.abs_int, SD.int_int, SD.int_bl, SD.tuple_tup, SD.tuple_lref, SD.list_tup, SD.list_lref, SD.witer_tup, SD.witer_lref, SD.wzip_tup, SD.wipe_nil, SD.wipe_cons, SD.tru_nil, SD.tru_bl, SD.dE, SD.pairs, SD.allD, SD.anyD, SD.atI_0, SD.atI_1, SD.atI_2, SD.atI_3, SD.isa_NoneType_int, SD.isa_NoneType_bool, SD.isa_NoneType_str, SD.isa_NoneType_tuple, SD.isa_NoneType_list, SD.isa_bool_int, SD.isa_bool_bool, SD.isa_bool_str, SD.isa_bool_tuple, SD.isa_bool_list, SD.isa_int_int, SD.isa_int_bool, SD.isa_int_str, SD.isa_int_tuple, SD.isa_int_list, SD.isa_str_int, SD.isa_str_bool, SD.isa_str_str, SD.isa_str_tuple, SD.isa_str_list, SD.isa_tuple_int, SD.isa_tuple_bool, SD.isa_tuple_str, SD.isa_tuple_tuple, SD.isa_tuple_list, SD.isa_list_int, SD.isa_list_bool, SD.isa_list_str, SD.isa_list_tuple, SD.isa_list_list, List.length_cons, List.length_nil, List.map_cons, List.map_nil, List.set_cons_zero, List.set_cons_succ, List.replicate_succ, List.replicate_zero, List.cons_append, List.nil_append, List.zipWith_cons_cons, List.zipWith_nil_left, Nat.add_sub_cancel, Nat.reduceAdd, Nat.reduceSub, Nat.zero_add, Nat.sub_self, and_true, true_and, reduceCtorEq, if_true, if_false, ite_true, ite_false, Bool.false_eq_true, Bool.not_true, Bool.not_false, decide_eq_true_eq, SD.forLoop, SD.compLoop, h1, h2, h3, h4, h5, sp_dot, sp_multiplied, sp_square, sp_sign_of, sp_turned, spW2_wy, w_n2, spW1_wy, w_n1, spQ2_n, spQ2_fr, spQ1_n, spQ1_fr])
  walk_at "sides"
  exact trQ_self rfl h
def sp_are_along : FnD := spW2 (BW2 3900) fun v w => .bl (decide (v.cross w = .zero))
theorem h_are_along (T : Tab) (h1 : T.sp "cross" = some sp_cross) (h2 : T.glob "NONE" = some (wy .zero)) : Meets sp_are_along N_are_along (t_are_along T) := by
  rintro ds S E Q hl ⟨v, w, rfl, hvw, h⟩
  unfold t_are_along N_are_along
  ((try simp only [SD.startD, List.length_cons, List.length_nil, List.map_cons, List.map_nil, List.replicate_succ, List.replicate_zero, List.cons_append, List.nil_append, Nat.reduceAdd, Nat.reduceSub, Nat.zero_add]); simp only [↓SD.ev_nil, ↓SD.ev_seq, ↓SD.ev_next, ↓SD.ev_break, ↓SD.ev_cont, ↓SD.ev_expr, ↓SD.ev_ret, ↓SD.ev_retN, ↓SD.ev_asg, ↓SD.ev_aug, ↓SD.ev_if, ↓SD.ev_for, ↓SD.ev_raise, ↓SD.ev_try, ↓SD.ev_var, ↓SD.ev_c, ↓SD.ev_glob, ↓SD.ev_tup, ↓SD.ev_lst, ↓SD.ev_bin, ↓SD.ev_un, ↓SD.ev_b1, ↓SD.ev_tE, ↓SD.ev_tNot, ↓SD.ev_tAnd, ↓SD.ev_tOr, ↓SD.ev_tYes, ↓SD.ev_not, ↓SD.ev_and, ↓SD.ev_or, ↓SD.ev_ifE, ↓SD.ev_cmp, ↓SD.ev_chain, ↓SD.ev_ix, ↓SD.ev_slice, ↓SD.ev_part1, ↓SD.ev_part0, ↓SD.ev_call, ↓SD.ev_callV, ↓SD.ev_app, ↓SD.ev_gVar, ↓SD.ev_gTup, ↓SD.ev_gIx, ↓SD.ev_iE, ↓SD.ev_iRange1, ↓SD.ev_iRange2, ↓SD.ev_iZip, ↓SD.ev_comp, ↓SD.ev_tupC, ↓SD.ev_allC, ↓SD.ev_anyC, ↓SD.ev_cComp, ↓SD.eList, ↓SD.gSeq, ↓SD.look_zero, ↓SD.look_succ, ↓SD.isa_non, ↓SD.isa_bl, ↓SD.isa_int, ↓SD.isa_str, ↓SD.isa_tup, ↓SD.isa_lref, ↓SD.ite_tt, ↓SD.ite_ff, SD.add_1, SD.add_2, SD.add_3, SD.add_4, SD.sub_1, SD.sub_2, SD.mul_1, SD.mul_2, SD.fdiv_1, SD.mod_1, SD.pow_1, SD.neg_1, SD.tr_non, SD.tr_bl, SD.tr_int, SD.tr_str, SD.tr_tup, SD.tr_lref, SD.lt_1, SD.le_1, SD.is_1, SD.is_2, SD.is_3, SD.is_4, SD.is_5, SD.is_6, SD.is_7, SD.cmp_eq, SD.cmp_ne, SD.cmp_lt, SD.cmp_le, SD.cmp_gt, SD.cmp_ge, SD.cmp_is, SD.cmp_isnot, SD.cmp_in, SD.cmp_notin, SD.eqk_int, SD.eqk_bl, SD.ix_tup, SD.ix_lref, SD.len_tup, SD.len_lref, SD.len_str, SD.abs_int, SD.int_int, SD.int_bl, SD.tuple_tup, SD.tuple_lref, SD.list_tup, SD.list_lref, SD.witer_tup, SD.witer_lref, SD.wzip_tup, SD.wipe_nil, SD.wipe_cons, SD.tru_nil, SD.tru_bl, SD.dE, SD.pairs, SD.allD, SD.anyD, SD.atI_0, SD.atI_1, SD.atI_2, SD.atI_3, SD.isa_NoneType_int, SD.isa_NoneType_bool, SD.isa_NoneType_str, SD.isa_NoneType_tuple, SD.isa_NoneType_list, SD.isa_bool_int, SD.isa_bool_bool, SD.isa_bool_str, SD.isa_bool_tuple, SD.isa_bool_list, SD.isa_int_int, SD.isa_int_bool, SD.isa_int_str, SD.isa_int_tuple, SD.isa_int_list, SD.isa_str_int, SD.isa_str_bool, SD.isa_str_str, SD.isa_str_tuple, SD.isa_str_list, SD.isa_tuple_int, SD.isa_tuple_bool, SD.isa_tuple_str, SD.isa_tuple_tuple, SD.isa_tuple_list, SD.isa_list_int, SD.isa_list_bool, SD.isa_list_str, SD.isa_list_tuple, SD.isa_list_list, List.length_cons, List.length_nil, List.map_cons, List.map_nil, List.set_cons_zero, List.set_cons_succ, List.replicate_succ, List.replicate_zero, List.cons_append, List.nil_append, List.zipWith_cons_cons, List.zipWith_nil_left, Nat.add_sub_cancel, Nat.reduceAdd, Nat.reduceSub, Nat.zero_add, Nat.sub_self, and_true, true_and, reduceCtorEq, if_true, if_false, ite_true, ite_false, Bool.false_eq_true, Bool.not_true, Bool.not_false, decide_eq_true_eq, SD.forLoop, SD.compLoop, h1, h2, sp_cross, spW2_wy, w_n2, eqk_wy])
  walk_at "sides"
  exact trQ_self rfl h
def sp_demand_some : FnD := ⟨2, fun ds S E Q => match ds with
  | [d, .str r] => okW d = true ∧ if isWay d = true ∧ wayOf d ≠ .zero then Q .non S else E (argErr r) S
  | _ => False⟩
theorem h_demand_some (T : Tab) (h1 : T.sp "demand_way" = some sp_demand_way) (h2 : T.exc "ArgumentError" = some [("reason" : Str)]) (h3 : T.glob "NONE" = some (wy .zero)) : Meets sp_demand_some N_demand_some (t_demand_some T) := by
  intro ds S E Q hl h
  unfold sp_demand_some at h
  unfold t_demand_some N_demand_some
  dsimp only at h
  split at h
  · rename_i d r
    obtain ⟨h4, h5⟩ := h
    ((try simp only [SD.startD, List.length_cons, List.length_nil, List.map_cons, List.map_nil, List.replicate_succ, List.replicate_zero, List.cons_append, List.nil_append, Nat.reduceAdd, Nat.reduceSub, Nat.zero_add]); simp only [↓SD.ev_nil, ↓SD.ev_seq, ↓SD.ev_next, ↓SD.ev_break, ↓SD.ev_cont, ↓SD.ev_expr, ↓SD.ev_ret, ↓SD.ev_retN, ↓SD.ev_asg, ↓SD.ev_aug, ↓SD.ev_if, ↓SD.ev_for, ↓SD.ev_raise, ↓SD.ev_try, ↓SD.ev_var, ↓SD.ev_c, ↓SD.ev_glob, ↓SD.ev_tup, ↓SD.ev_lst, ↓SD.ev_bin, ↓SD.ev_un, ↓SD.ev_b1, ↓SD.ev_tE, ↓SD.ev_tNot, ↓SD.ev_tAnd, ↓SD.ev_tOr, ↓SD.ev_tYes, ↓SD.ev_not, ↓SD.ev_and, ↓SD.ev_or, ↓SD.ev_ifE, ↓SD.ev_cmp, ↓SD.ev_chain, ↓SD.ev_ix, ↓SD.ev_slice, ↓SD.ev_part1, ↓SD.ev_part0, ↓SD.ev_call, ↓SD.ev_callV, ↓SD.ev_app, ↓SD.ev_gVar, ↓SD.ev_gTup, ↓SD.ev_gIx, ↓SD.ev_iE, ↓SD.ev_iRange1, ↓SD.ev_iRange2, ↓SD.ev_iZip, ↓SD.ev_comp, ↓SD.ev_tupC, ↓SD.ev_allC, ↓SD.ev_anyC, ↓SD.ev_cComp, ↓SD.eList, ↓SD.gSeq, ↓SD.look_zero, ↓SD.look_succ, ↓SD.isa_non, ↓SD.isa_bl, ↓SD.isa_int, ↓SD.isa_str, ↓SD.isa_tup, ↓SD.isa_lref, ↓SD.ite_tt, ↓SD.ite_ff, SD.add_1, SD.add_2, SD.add_3, SD.add_4, SD.sub_1, SD.sub_2, SD.mul_1, SD.mul_2, SD.fdiv_1, SD.mod_1, SD.pow_1, SD.neg_1, SD.tr_non, SD.tr_bl, SD.tr_int, SD.tr_str, SD.tr_tup, SD.tr_lref, SD.lt_1, SD.le_1, SD.is_1, SD.is_2, SD.is_3, SD.is_4, SD.is_5, SD.is_6, SD.is_7, SD.cmp_eq, SD.cmp_ne, SD.cmp_lt, SD.cmp_le, SD.cmp_gt, SD.cmp_ge, SD.cmp_is, SD.cmp_isnot, SD.cmp_in, SD.cmp_notin, SD.eqk_int, SD.eqk_bl, SD.ix_tup, SD.ix_lref, SD.len_tup, SD.len_lref, SD.len_str, SD.abs_int, SD.int_int, SD.int_bl, SD.tuple_tup, SD.tuple_lref, SD.list_tup, SD.list_lref, SD.witer_tup, SD.witer_lref, SD.wzip_tup, SD.wipe_nil, SD.wipe_cons, SD.tru_nil, SD.tru_bl, SD.dE, SD.pairs, SD.allD, SD.anyD, SD.atI_0, SD.atI_1, SD.atI_2, SD.atI_3, SD.isa_NoneType_int, SD.isa_NoneType_bool, SD.isa_NoneType_str, SD.isa_NoneType_tuple, SD.isa_NoneType_list, SD.isa_bool_int, SD.isa_bool_bool, SD.isa_bool_str, SD.isa_bool_tuple, SD.isa_bool_list, SD.isa_int_int, SD.isa_int_bool, SD.isa_int_str, SD.isa_int_tuple, SD.isa_int_list, SD.isa_str_int, SD.isa_str_bool, SD.isa_str_str, SD.isa_str_tuple, SD.isa_str_list, SD.isa_tuple_int, SD.isa_tuple_bool, SD.isa_tuple_str, SD.isa_tuple_tuple, SD.isa_tuple_list, SD.isa_list_int, SD.isa_list_bool, SD.isa_list_str, SD.isa_list_tuple, SD.isa_list_list, List.length_cons, List.length_nil, List.map_cons, List.map_nil, List.set_cons_zero, List.set_cons_succ, List.replicate_succ, List.replicate_zero, List.cons_append, List.nil_append, List.zipWith_cons_cons, List.zipWith_nil_left, Nat.add_sub_cancel, Nat.reduceAdd, Nat.reduceSub, Nat.zero_add, Nat.sub_self, and_true, true_and, reduceCtorEq, if_true, if_false, ite_true, ite_false, Bool.false_eq_true, Bool.not_true, Bool.not_false, decide_eq_true_eq, SD.forLoop, SD.compLoop, h1, sp_demand_way, h4])
    by_cases hw : isWay d = true
    · obtain ⟨e, _⟩ := wy_of_way hw
      rw [if_pos hw]
      rw [e] at h5 ⊢
      rw [wayOf_wy] at h5
      rw [e] at hw
      ((try simp only [SD.startD, List.length_cons, List.length_nil, List.map_cons, List.map_nil, List.replicate_succ, List.replicate_zero, List.cons_append, List.nil_append, Nat.reduceAdd, Nat.reduceSub, Nat.zero_add]); simp only [↓SD.ev_nil, ↓SD.ev_seq, ↓SD.ev_next, ↓SD.ev_break, ↓SD.ev_cont, ↓SD.ev_expr, ↓SD.ev_ret, ↓SD.ev_retN, ↓SD.ev_asg, ↓SD.ev_aug, ↓SD.ev_if, ↓SD.ev_for, ↓SD.ev_raise, ↓SD.ev_try, ↓SD.ev_var, ↓SD.ev_c, ↓SD.ev_glob, ↓SD.ev_tup, ↓SD.ev_lst, ↓SD.ev_bin, ↓SD.ev_un, ↓SD.ev_b1, ↓SD.ev_tE, ↓SD.ev_tNot, ↓SD.ev_tAnd, ↓SD.ev_tOr, ↓SD.ev_tYes, ↓SD.ev_not, ↓SD.ev_and, ↓SD.ev_or, ↓SD.ev_ifE, ↓SD.ev_cmp, ↓SD.ev_chain, ↓SD.ev_ix, ↓SD.ev_slice, ↓SD.ev_part1, ↓SD.ev_part0, ↓SD.ev_call, ↓SD.ev_callV, ↓SD.ev_app, ↓SD.ev_gVar, ↓SD.ev_gTup, ↓SD.ev_gIx, ↓SD.ev_iE, ↓SD.ev_iRange1, ↓SD.ev_iRange2, ↓SD.ev_iZip, ↓SD.ev_comp, ↓SD.ev_tupC, ↓SD.ev_allC, ↓SD.ev_anyC, ↓SD.ev_cComp, ↓SD.eList, ↓SD.gSeq, ↓SD.look_zero, ↓SD.look_succ, ↓SD.isa_non, ↓SD.isa_bl, ↓SD.isa_int, ↓SD.isa_str, ↓SD.isa_tup, ↓SD.isa_lref, ↓SD.ite_tt, ↓SD.ite_ff, SD.add_1, SD.add_2, SD.add_3, SD.add_4, SD.sub_1, SD.sub_2, SD.mul_1, SD.mul_2, SD.fdiv_1, SD.mod_1, SD.pow_1, SD.neg_1, SD.tr_non, SD.tr_bl, SD.tr_int, SD.tr_str, SD.tr_tup, SD.tr_lref, SD.lt_1, SD.le_1, SD.is_1, SD.is_2, SD.is_3, SD.is_4, SD.is_5, SD.is_6, SD.is_7, SD.cmp_eq, SD.cmp_ne, SD.cmp_lt, SD.cmp_le, SD.cmp_gt, SD.cmp_ge, SD.cmp_is, SD.cmp_isnot, SD.cmp_in, SD.cmp_notin, SD.eqk_int, SD.eqk_bl, SD.ix_tup, SD.ix_lref, SD.len_tup, SD.len_lref, SD.len_str, SD.abs_int, SD.int_int, SD.int_bl, SD.tuple_tup, SD.tuple_lref, SD.list_tup, SD.list_lref, SD.witer_tup, SD.witer_lref, SD.wzip_tup, SD.wipe_nil, SD.wipe_cons, SD.tru_nil, SD.tru_bl, SD.dE, SD.pairs, SD.allD, SD.anyD, SD.atI_0, SD.atI_1, SD.atI_2, SD.atI_3, SD.isa_NoneType_int, SD.isa_NoneType_bool, SD.isa_NoneType_str, SD.isa_NoneType_tuple, SD.isa_NoneType_list, SD.isa_bool_int, SD.isa_bool_bool, SD.isa_bool_str, SD.isa_bool_tuple, SD.isa_bool_list, SD.isa_int_int, SD.isa_int_bool, SD.isa_int_str, SD.isa_int_tuple, SD.isa_int_list, SD.isa_str_int, SD.isa_str_bool, SD.isa_str_str, SD.isa_str_tuple, SD.isa_str_list, SD.isa_tuple_int, SD.isa_tuple_bool, SD.isa_tuple_str, SD.isa_tuple_tuple, SD.isa_tuple_list, SD.isa_list_int, SD.isa_list_bool, SD.isa_list_str, SD.isa_list_tuple, SD.isa_list_list, List.length_cons, List.length_nil, List.map_cons, List.map_nil, List.set_cons_zero, List.set_cons_succ, List.replicate_succ, List.replicate_zero, List.cons_append, List.nil_append, List.zipWith_cons_cons, List.zipWith_nil_left, Nat.add_sub_cancel, Nat.reduceAdd, Nat.reduceSub, Nat.zero_add, Nat.sub_self, and_true, true_and, reduceCtorEq, if_true, if_false, ite_true, ite_false, Bool.false_eq_true, Bool.not_true, Bool.not_false, decide_eq_true_eq, SD.forLoop, SD.compLoop, h3, eqk_wy])
      by_cases hz : wayOf d = .zero
      · rw [if_neg (fun z => z.2 hz)] at h5
        ((try simp only [SD.startD, List.length_cons, List.length_nil, List.map_cons, List.map_nil, List.replicate_succ, List.replicate_zero, List.cons_append, List.nil_append, Nat.reduceAdd, Nat.reduceSub, Nat.zero_add]); simp only [↓SD.ev_nil, ↓SD.ev_seq, ↓SD.ev_next, ↓SD.ev_break, ↓SD.ev_cont, ↓SD.ev_expr, ↓SD.ev_ret, ↓SD.ev_retN, ↓SD.ev_asg, ↓SD.ev_aug, ↓SD.ev_if, ↓SD.ev_for, ↓SD.ev_raise, ↓SD.ev_try, ↓SD.ev_var, ↓SD.ev_c, ↓SD.ev_glob, ↓SD.ev_tup, ↓SD.ev_lst, ↓SD.ev_bin, ↓SD.ev_un, ↓SD.ev_b1, ↓SD.ev_tE, ↓SD.ev_tNot, ↓SD.ev_tAnd, ↓SD.ev_tOr, ↓SD.ev_tYes, ↓SD.ev_not, ↓SD.ev_and, ↓SD.ev_or, ↓SD.ev_ifE, ↓SD.ev_cmp, ↓SD.ev_chain, ↓SD.ev_ix, ↓SD.ev_slice, ↓SD.ev_part1, ↓SD.ev_part0, ↓SD.ev_call, ↓SD.ev_callV, ↓SD.ev_app, ↓SD.ev_gVar, ↓SD.ev_gTup, ↓SD.ev_gIx, ↓SD.ev_iE, ↓SD.ev_iRange1, ↓SD.ev_iRange2, ↓SD.ev_iZip, ↓SD.ev_comp, ↓SD.ev_tupC, ↓SD.ev_allC, ↓SD.ev_anyC, ↓SD.ev_cComp, ↓SD.eList, ↓SD.gSeq, ↓SD.look_zero, ↓SD.look_succ, ↓SD.isa_non, ↓SD.isa_bl, ↓SD.isa_int, ↓SD.isa_str, ↓SD.isa_tup, ↓SD.isa_lref, ↓SD.ite_tt, ↓SD.ite_ff, SD.add_1, SD.add_2, SD.add_3, SD.add_4, SD.sub_1, SD.sub_2, SD.mul_1, SD.mul_2, SD.fdiv_1, SD.mod_1, SD.pow_1, SD.neg_1, SD.tr_non, SD.tr_bl, SD.tr_int, SD.tr_str, SD.tr_tup, SD.tr_lref, SD.lt_1, SD.le_1, SD.is_1, SD.is_2, SD.is_3, SD.is_4, SD.is_5, SD.is_6, SD.is_7, SD.cmp_eq, SD.cmp_ne, SD.cmp_lt, SD.cmp_le, SD.cmp_gt, SD.cmp_ge, SD.cmp_is, SD.cmp_isnot, SD.cmp_in, SD.cmp_notin, SD.eqk_int, SD.eqk_bl, SD.ix_tup, SD.ix_lref, SD.len_tup, SD.len_lref, SD.len_str, SD.abs_int, SD.int_int, SD.int_bl, SD.tuple_tup, SD.tuple_lref, SD.list_tup, SD.list_lref, SD.witer_tup, SD.witer_lref, SD.wzip_tup, SD.wipe_nil, SD.wipe_cons, SD.tru_nil, SD.tru_bl, SD.dE, SD.pairs, SD.allD, SD.anyD, SD.atI_0, SD.atI_1, SD.atI_2, SD.atI_3, SD.isa_NoneType_int, SD.isa_NoneType_bool, SD.isa_NoneType_str, SD.isa_NoneType_tuple, SD.isa_NoneType_list, SD.isa_bool_int, SD.isa_bool_bool, SD.isa_bool_str, SD.isa_bool_tuple, SD.isa_bool_list, SD.isa_int_int, SD.isa_int_bool, SD.isa_int_str, SD.isa_int_tuple, SD.isa_int_list, SD.isa_str_int, SD.isa_str_bool, SD.isa_str_str, SD.isa_str_tuple, SD.isa_str_list, SD.isa_tuple_int, SD.isa_tuple_bool, SD.isa_tuple_str, SD.isa_tuple_tuple, SD.isa_tuple_list, SD.isa_list_int, SD.isa_list_bool, SD.isa_list_str, SD.isa_list_tuple, SD.isa_list_list, List.length_cons, List.length_nil, List.map_cons, List.map_nil, List.set_cons_zero, List.set_cons_succ, List.replicate_succ, List.replicate_zero, List.cons_append, List.nil_append, List.zipWith_cons_cons, List.zipWith_nil_left, Nat.add_sub_cancel, Nat.reduceAdd, Nat.reduceSub, Nat.zero_add, Nat.sub_self, and_true, true_and, reduceCtorEq, if_true, if_false, ite_true, ite_false, Bool.false_eq_true, Bool.not_true, Bool.not_false, decide_eq_true_eq, SD.forLoop, SD.compLoop, hz, h2])
        exact trE_self rfl h5
      · rw [if_pos ⟨hw, hz⟩] at h5
        ((try simp only [SD.startD, List.length_cons, List.length_nil, List.map_cons, List.map_nil, List.replicate_succ, List.replicate_zero, List.cons_append, List.nil_append, Nat.reduceAdd, Nat.reduceSub, Nat.zero_add]); simp only [↓SD.ev_nil, ↓SD.ev_seq, ↓SD.ev_next, ↓SD.ev_break, ↓SD.ev_cont, ↓SD.ev_expr, ↓SD.ev_ret, ↓SD.ev_retN, ↓SD.ev_asg, ↓SD.ev_aug, ↓SD.ev_if, ↓SD.ev_for, ↓SD.ev_raise, ↓SD.ev_try, ↓SD.ev_var, ↓SD.ev_c, ↓SD.ev_glob, ↓SD.ev_tup, ↓SD.ev_lst, ↓SD.ev_bin, ↓SD.ev_un, ↓SD.ev_b1, ↓SD.ev_tE, ↓SD.ev_tNot, ↓SD.ev_tAnd, ↓SD.ev_tOr, ↓SD.ev_tYes, ↓SD.ev_not, ↓SD.ev_and, ↓SD.ev_or, ↓SD.ev_ifE, ↓SD.ev_cmp, ↓SD.ev_chain, ↓SD.ev_ix, ↓SD.ev_slice, ↓SD.ev_part1, ↓SD.ev_part0, ↓SD.ev_call, ↓SD.ev_callV, ↓SD.ev_app, ↓SD.ev_gVar, ↓SD.ev_gTup, ↓SD.ev_gIx, ↓SD.ev_iE, ↓SD.ev_iRange1, ↓SD.ev_iRange2, ↓SD.ev_iZip, ↓SD.ev_comp, ↓SD.ev_tupC, ↓SD.ev_allC, ↓SD.ev_anyC, ↓SD.ev_cComp, ↓SD.eList, ↓SD.gSeq, ↓SD.look_zero, ↓SD.look_succ, ↓SD.isa_non, ↓SD.isa_bl, ↓SD.isa_int, ↓SD.isa_str, ↓SD.isa_tup, ↓SD.isa_lref, ↓SD.ite_tt, ↓SD.ite_ff, SD.add_1, SD.add_2, SD.add_3, SD.add_4, SD.sub_1, SD.sub_2, SD.mul_1, SD.mul_2, SD.fdiv_1, SD.mod_1, SD.pow_1, SD.neg_1, SD.tr_non, SD.tr_bl, SD.tr_int, SD.tr_str, SD.tr_tup, SD.tr_lref, SD.lt_1, SD.le_1, SD.is_1, SD.is_2, SD.is_3, SD.is_4, SD.is_5, SD.is_6, SD.is_7, SD.cmp_eq, SD.cmp_ne, SD.cmp_lt, SD.cmp_le, SD.cmp_gt, SD.cmp_ge, SD.cmp_is, SD.cmp_isnot, SD.cmp_in, SD.cmp_notin, SD.eqk_int, SD.eqk_bl, SD.ix_tup, SD.ix_lref, SD.len_tup, SD.len_lref, SD.len_str, SD.abs_int, SD.int_int, SD.int_bl, SD.tuple_tup, SD.tuple_lref, SD.list_tup, SD.list_lref, SD.witer_tup, SD.witer_lref, SD.wzip_tup, SD.wipe_nil, SD.wipe_cons, SD.tru_nil, SD.tru_bl, SD.dE, SD.pairs, SD.allD, SD.anyD, SD.atI_0, SD.atI_1, SD.atI_2, SD.atI_3, SD.isa_NoneType_int, SD.isa_NoneType_bool, SD.isa_NoneType_str, SD.isa_NoneType_tuple, SD.isa_NoneType_list, SD.isa_bool_int, SD.isa_bool_bool, SD.isa_bool_str, SD.isa_bool_tuple, SD.isa_bool_list, SD.isa_int_int, SD.isa_int_bool, SD.isa_int_str, SD.isa_int_tuple, SD.isa_int_list, SD.isa_str_int, SD.isa_str_bool, SD.isa_str_str, SD.isa_str_tuple, SD.isa_str_list, SD.isa_tuple_int, SD.isa_tuple_bool, SD.isa_tuple_str, SD.isa_tuple_tuple, SD.isa_tuple_list, SD.isa_list_int, SD.isa_list_bool, SD.isa_list_str, SD.isa_list_tuple, SD.isa_list_list, List.length_cons, List.length_nil, List.map_cons, List.map_nil, List.set_cons_zero, List.set_cons_succ, List.replicate_succ, List.replicate_zero, List.cons_append, List.nil_append, List.zipWith_cons_cons, List.zipWith_nil_left, Nat.add_sub_cancel, Nat.reduceAdd, Nat.reduceSub, Nat.zero_add, Nat.sub_self, and_true, true_and, reduceCtorEq, if_true, if_false, ite_true, ite_false, Bool.false_eq_true, Bool.not_true, Bool.not_false, decide_eq_true_eq, SD.forLoop, SD.compLoop, hz])
        exact trQ_self rfl h5
    · rw [if_neg hw]
      rw [if_neg (fun z => hw z.1)] at h5
      exact trE_self rfl h5
  · exact h.elim
/-! ### rows of ways -/
def rowsOf (S : Store) : D → Option (List D)
  | .tup xs => some xs
  | .lref k => (match S[k]? with
    | some (.lst xs) => some xs
    | _ => none)
  | _ => none
theorem rows_iter {S : Store} {d : D} {xs : List D} (h : rowsOf S d = some xs) : ∃ keep : Store → Prop, keep S ∧ ∀ QI : List D → (Store → Prop) → Store → Prop, QI xs keep S → iterD d S QI := by
  unfold rowsOf at h
  split at h
  · cases h
    exact ⟨fun _ => True, trivial, fun QI q => q⟩
  · rename_i k
    split at h
    · rename_i xs' e
      cases h
      exact ⟨fun S' => S'[k]? = some (.lst xs), e, fun QI q => by
        show cellL S k _
        rw [cellL_known e]
        exact q⟩
    · cases h
  · cases h
def nzW (d : D) : Bool := decide (wayOf d ≠ .zero)
theorem filter_wy {p : D → Bool} {vs : List W3} : (vs.map wy).filter p = (vs.filter fun v => p (wy v)).map wy := by
  rw [List.filter_map]
  rfl
theorem cellL_new2 {S : Store} {xs : List D} {c : Cell} {Q : List D → Prop} : cellL (S ++ [.lst xs] ++ [c]) S.length Q = Q xs := by
  rw [List.append_assoc]
  exact cellL_head
/-- the rank of ways -/
def rankW (vs : List W3) : Int := match vs.filter (fun v => decide (v ≠ .zero)) with
  | [] => 0
  | s :: r => match (s :: r).filter (fun v => decide (s.cross v ≠ .zero)) with
    | [] => 1
    | a :: _ => if (s :: r).any (fun v => decide ((s.cross a).dot v ≠ 0)) then 3 else 2
def sp_rank_of : FnD := ⟨1, fun ds S _ Q => ∃ d vs, ds = [d] ∧ (rowsOf S d = some (vs.map wy) ∧ vs.length ≤ 1000 ∧ ∀ v ∈ vs, BW 50 v) ∧ Q (.int (rankW vs)) S⟩
theorem truths_num {f : D → Rat} : ∀ {l : List D}, truths (l.map fun d => .int (f d).num) = some (l.map fun d => decide (f d ≠ 0))
  | [] => rfl
  | d :: l => by
    rw [List.map_cons, List.map_cons]
    show (match flatT (.int (f d).num), truths (l.map fun d => .int (f d).num) with
      | some b, some bs => some (b :: bs)
      | _, _ => none) = _
    rw [truths_num]
    show some ((((f d).num != 0)) :: _) = _
    rw [num_ne]
theorem any_id {l : List D} {f : D → Bool} : (l.map f).any id = l.any f := by
  rw [List.any_map]
  rfl
theorem h_rank_of (T : Tab) (h1 : T.sp "are_along" = some sp_are_along) (h2 : T.sp "cross" = some sp_cross) (h3 : T.sp "dot" = some sp_dot) (h4 : T.glob "NONE" = some (wy .zero)) : Meets sp_rank_of N_rank_of (t_rank_of T) := by
  rintro ds S E Q hl ⟨d, vs, rfl, ⟨hr, hn, hb⟩, h⟩
  unfold t_rank_of N_rank_of
  obtain ⟨keep, hk, it⟩ := rows_iter hr
  ((try simp only [SD.startD, List.length_cons, List.length_nil, List.map_cons, List.map_nil, List.replicate_succ, List.replicate_zero, List.cons_append, List.nil_append, Nat.reduceAdd, Nat.reduceSub, Nat.zero_add]); simp only [↓SD.ev_nil, ↓SD.ev_seq, ↓SD.ev_next, ↓SD.ev_break, ↓SD.ev_cont, ↓SD.ev_expr, ↓SD.ev_ret, ↓SD.ev_retN, ↓SD.ev_asg, ↓SD.ev_aug, ↓SD.ev_if, ↓SD.ev_for, ↓SD.ev_raise, ↓SD.ev_try, ↓SD.ev_var, ↓SD.ev_c, ↓SD.ev_glob, ↓SD.ev_tup, ↓SD.ev_lst, ↓SD.ev_bin, ↓SD.ev_un, ↓SD.ev_b1, ↓SD.ev_tE, ↓SD.ev_tNot, ↓SD.ev_tAnd, ↓SD.ev_tOr, ↓SD.ev_tYes, ↓SD.ev_not, ↓SD.ev_and, ↓SD.ev_or, ↓SD.ev_ifE, ↓SD.ev_cmp, ↓SD.ev_chain, ↓SD.ev_ix, ↓SD.ev_slice, ↓SD.ev_part1, ↓SD.ev_part0, ↓SD.ev_call, ↓SD.ev_callV, ↓SD.ev_app, ↓SD.ev_gVar, ↓SD.ev_gTup, ↓SD.ev_gIx, ↓SD.ev_iE, ↓SD.ev_iRange1, ↓SD.ev_iRange2, ↓SD.ev_iZip, ↓SD.ev_comp, ↓SD.ev_tupC, ↓SD.ev_allC, ↓SD.ev_anyC, ↓SD.ev_cComp, ↓SD.eList, ↓SD.gSeq, ↓SD.look_zero, ↓SD.look_succ, ↓SD.isa_non, ↓SD.isa_bl, ↓SD.isa_int, ↓SD.isa_str, ↓SD.isa_tup, ↓SD.isa_lref, ↓SD.ite_tt, ↓SD.ite_ff, SD.add_1, SD.add_2, SD.add_3, SD.add_4, SD.sub_1, SD.sub_2, SD.mul_1, SD.mul_2, SD.fdiv_1, SD.mod_1, SD.pow_1, SD.neg_1, SD.tr_non, SD.tr_bl, SD.tr_int, SD.tr_str, SD.tr_tup, SD.tr_lref, SD.lt_1, SD.le_1, SD.is_1, SD.is_2, SD.is_3, SD.is_4, SD.is_5, SD.is_6, SD.is_7, SD.cmp_eq, SD.cmp_ne, SD.cmp_lt, SD.cmp_le, SD.cmp_gt, SD.cmp_ge, SD.cmp_is, SD.cmp_isnot, SD.cmp_in, SD.cmp_notin, SD.eqk_int, SD.eqk_bl, SD.ix_tup, SD.ix_lref, SD.len_tup, SD.len_lref, SD.len_str, SD.abs_int, SD.int_int, SD.int_bl, SD.tuple_tup, SD.tuple_lref, SD.list_tup, SD.list_lref, SD.witer_tup, SD.witer_lref, SD.wzip_tup, SD.wipe_nil, SD.wipe_cons, SD.tru_nil, SD.tru_bl, SD.dE, SD.pairs, SD.allD, SD.anyD, SD.atI_0, SD.atI_1, SD.atI_2, SD.atI_3, SD.isa_NoneType_int, SD.isa_NoneType_bool, SD.isa_NoneType_str, SD.isa_NoneType_tuple, SD.isa_NoneType_list, SD.isa_bool_int, SD.isa_bool_bool, SD.isa_bool_str, SD.isa_bool_tuple, SD.isa_bool_list, SD.isa_int_int, SD.isa_int_bool, SD.isa_int_str, SD.isa_int_tuple, SD.isa_int_list, SD.isa_str_int, SD.isa_str_bool, SD.isa_str_str, SD.isa_str_tuple, SD.isa_str_list, SD.isa_tuple_int, SD.isa_tuple_bool, SD.isa_tuple_str, SD.isa_tuple_tuple, SD.isa_tuple_list, SD.isa_list_int, SD.isa_list_bool, SD.isa_list_str, SD.isa_list_tuple, SD.isa_list_list, List.length_cons, List.length_nil, List.map_cons, List.map_nil, List.set_cons_zero, List.set_cons_succ, List.replicate_succ, List.replicate_zero, List.cons_append, List.nil_append, List.zipWith_cons_cons, List.zipWith_nil_left, Nat.add_sub_cancel, Nat.reduceAdd, Nat.reduceSub, Nat.zero_add, Nat.sub_self, and_true, true_and, reduceCtorEq, if_true, if_false, ite_true, ite_false, Bool.false_eq_true, Bool.not_true, Bool.not_false, decide_eq_true_eq])
  refine it _ ⟨by rw [List.length_map]; exact line1000 hn, comp_pure (p := nzW) (f := id) hk (fun d m Kt Kf k => ?_) ?_⟩
  · obtain ⟨v, hv, rfl⟩ := List.mem_map.mp m
    ((try simp only [SD.startD, List.length_cons, List.length_nil, List.map_cons, List.map_nil, List.replicate_succ, List.replicate_zero, List.cons_append, List.nil_append, Nat.reduceAdd, Nat.reduceSub, Nat.zero_add]); simp only [↓SD.ev_nil, ↓SD.ev_seq, ↓SD.ev_next, ↓SD.ev_break, ↓SD.ev_cont, ↓SD.ev_expr, ↓SD.ev_ret, ↓SD.ev_retN, ↓SD.ev_asg, ↓SD.ev_aug, ↓SD.ev_if, ↓SD.ev_for, ↓SD.ev_raise, ↓SD.ev_try, ↓SD.ev_var, ↓SD.ev_c, ↓SD.ev_glob, ↓SD.ev_tup, ↓SD.ev_lst, ↓SD.ev_bin, ↓SD.ev_un, ↓SD.ev_b1, ↓SD.ev_tE, ↓SD.ev_tNot, ↓SD.ev_tAnd, ↓SD.ev_tOr, ↓SD.ev_tYes, ↓SD.ev_not, ↓SD.ev_and, ↓SD.ev_or, ↓SD.ev_ifE, ↓SD.ev_cmp, ↓SD.ev_chain, ↓SD.ev_ix, ↓SD.ev_slice, ↓SD.ev_part1, ↓SD.ev_part0, ↓SD.ev_call, ↓SD.ev_callV, ↓SD.ev_app, ↓SD.ev_gVar, ↓SD.ev_gTup, ↓SD.ev_gIx, ↓SD.ev_iE, ↓SD.ev_iRange1, ↓SD.ev_iRange2, ↓SD.ev_iZip, ↓SD.ev_comp, ↓SD.ev_tupC, ↓SD.ev_allC, ↓SD.ev_anyC, ↓SD.ev_cComp, ↓SD.eList, ↓SD.gSeq, ↓SD.look_zero, ↓SD.look_succ, ↓SD.isa_non, ↓SD.isa_bl, ↓SD.isa_int, ↓SD.isa_str, ↓SD.isa_tup, ↓SD.isa_lref, ↓SD.ite_tt, ↓SD.ite_ff, SD.add_1, SD.add_2, SD.add_3, SD.add_4, SD.sub_1, SD.sub_2, SD.mul_1, SD.mul_2, SD.fdiv_1, SD.mod_1, SD.pow_1, SD.neg_1, SD.tr_non, SD.tr_bl, SD.tr_int, SD.tr_str, SD.tr_tup, SD.tr_lref, SD.lt_1, SD.le_1, SD.is_1, SD.is_2, SD.is_3, SD.is_4, SD.is_5, SD.is_6, SD.is_7, SD.cmp_eq, SD.cmp_ne, SD.cmp_lt, SD.cmp_le, SD.cmp_gt, SD.cmp_ge, SD.cmp_is, SD.cmp_isnot, SD.cmp_in, SD.cmp_notin, SD.eqk_int, SD.eqk_bl, SD.ix_tup, SD.ix_lref, SD.len_tup, SD.len_lref, SD.len_str, SD.abs_int, SD.int_int, SD.int_bl, SD.tuple_tup, SD.tuple_lref, SD.list_tup, SD.list_lref, SD.witer_tup, SD.witer_lref, SD.wzip_tup, SD.wipe_nil, SD.wipe_cons, SD.tru_nil, SD.tru_bl, SD.dE, SD.pairs, SD.allD, SD.anyD, SD.atI_0, SD.atI_1, SD.atI_2, SD.atI_3, SD.isa_NoneType_int, SD.isa_NoneType_bool, SD.isa_NoneType_str, SD.isa_NoneType_tuple, SD.isa_NoneType_list, SD.isa_bool_int, SD.isa_bool_bool, SD.isa_bool_str, SD.isa_bool_tuple, SD.isa_bool_list, SD.isa_int_int, SD.isa_int_bool, SD.isa_int_str, SD.isa_int_tuple, SD.isa_int_list, SD.isa_str_int, SD.isa_str_bool, SD.isa_str_str, SD.isa_str_tuple, SD.isa_str_list, SD.isa_tuple_int, SD.isa_tuple_bool, SD.isa_tuple_str, SD.isa_tuple_tuple, SD.isa_tuple_list, SD.isa_list_int, SD.isa_list_bool, SD.isa_list_str, SD.isa_list_tuple, SD.isa_list_list, List.length_cons, List.length_nil, List.map_cons, List.map_nil, List.set_cons_zero, List.set_cons_succ, List.replicate_succ, List.replicate_zero, List.cons_append, List.nil_append, List.zipWith_cons_cons, List.zipWith_nil_left, Nat.add_sub_cancel, Nat.reduceAdd, Nat.reduceSub, Nat.zero_add, Nat.sub_self, and_true, true_and, reduceCtorEq, if_true, if_false, ite_true, ite_false, Bool.false_eq_true, Bool.not_true, Bool.not_false, decide_eq_true_eq, h4, eqk_wy])
    unfold nzW at k
    rw [wayOf_wy] at k
    by_cases hz : v = .zero
    · simpa [hz] using k
    · simpa [hz] using k
  rw [List.map_id, filter_wy]
  have ef : (vs.filter fun v => nzW (wy v)) = vs.filter fun v => decide (v ≠ .zero) := by
    congr 1
    funext v
    unfold nzW
    rw [wayOf_wy]
  rw [ef]
  unfold rankW at h
  have hb2 : ∀ v ∈ vs.filter (fun v => decide (v ≠ .zero)), BW 50 v := fun v m => hb v (List.mem_filter.mp m).1
  have hl2 : (vs.filter (fun v => decide (v ≠ .zero))).length ≤ 1000 := Nat.le_trans (List.length_filter_le _ _) hn
  generalize hsm : vs.filter (fun v => decide (v ≠ .zero)) = some' at h hb2 hl2 ⊢
  cases some' with
  | nil =>
    ((try simp only [SD.startD, List.length_cons, List.length_nil, List.map_cons, List.map_nil, List.replicate_succ, List.replicate_zero, List.cons_append, List.nil_append, Nat.reduceAdd, Nat.reduceSub, Nat.zero_add]); simp only [↓SD.ev_nil, ↓SD.ev_seq, ↓SD.ev_next, ↓SD.ev_break, ↓SD.ev_cont, ↓SD.ev_expr, ↓SD.ev_ret, ↓SD.ev_retN, ↓SD.ev_asg, ↓SD.ev_aug, ↓SD.ev_if, ↓SD.ev_for, ↓SD.ev_raise, ↓SD.ev_try, ↓SD.ev_var, ↓SD.ev_c, ↓SD.ev_glob, ↓SD.ev_tup, ↓SD.ev_lst, ↓SD.ev_bin, ↓SD.ev_un, ↓SD.ev_b1, ↓SD.ev_tE, ↓SD.ev_tNot, ↓SD.ev_tAnd, ↓SD.ev_tOr, ↓SD.ev_tYes, ↓SD.ev_not, ↓SD.ev_and, ↓SD.ev_or, ↓SD.ev_ifE, ↓SD.ev_cmp, ↓SD.ev_chain, ↓SD.ev_ix, ↓SD.ev_slice, ↓SD.ev_part1, ↓SD.ev_part0, ↓SD.ev_call, ↓SD.ev_callV, ↓SD.ev_app, ↓SD.ev_gVar, ↓SD.ev_gTup, ↓SD.ev_gIx, ↓SD.ev_iE, ↓SD.ev_iRange1, ↓SD.ev_iRange2, ↓SD.ev_iZip, ↓SD.ev_comp, ↓SD.ev_tupC, ↓SD.ev_allC, ↓SD.ev_anyC, ↓SD.ev_cComp, ↓SD.eList, ↓SD.gSeq, ↓SD.look_zero, ↓SD.look_succ, ↓SD.isa_non, ↓SD.isa_bl, ↓SD.isa_int, ↓SD.isa_str, ↓SD.isa_tup, ↓SD.isa_lref, ↓SD.ite_tt, ↓SD.ite_ff, SD.add_1, SD.add_2, SD.add_3, SD.add_4, SD.sub_1, SD.sub_2, SD.mul_1, SD.mul_2, SD.fdiv_1, SD.mod_1, SD.pow_1, SD.neg_1, SD.tr_non, SD.tr_bl, SD.tr_int, SD.tr_str, SD.tr_tup, SD.tr_lref, SD.lt_1, SD.le_1, SD.is_1, SD.is_2, SD.is_3, SD.is_4, SD.is_5, SD.is_6, SD.is_7, SD.cmp_eq, SD.cmp_ne, SD.cmp_lt, SD.cmp_le, SD.cmp_gt, SD.cmp_ge, SD.cmp_is, SD.cmp_isnot, SD.cmp_in, SD.cmp_notin, SD.eqk_int, SD.eqk_bl, SD.ix_tup, SD.ix_lref, SD.len_tup, SD.len_lref, SD.len_str, SD.abs_int, SD.int_int, SD.int_bl, SD.tuple_tup, SD.tuple_lref, SD.list_tup, SD.list_lref, SD.witer_tup, SD.witer_lref, SD.wzip_tup, SD.wipe_nil, SD.wipe_cons, SD.tru_nil, SD.tru_bl, SD.dE, SD.pairs, SD.allD, SD.anyD, SD.atI_0, SD.atI_1, SD.atI_2, SD.atI_3, SD.isa_NoneType_int, SD.isa_NoneType_bool, SD.isa_NoneType_str, SD.isa_NoneType_tuple, SD.isa_NoneType_list, SD.isa_bool_int, SD.isa_bool_bool, SD.isa_bool_str, SD.isa_bool_tuple, SD.isa_bool_list, SD.isa_int_int, SD.isa_int_bool, SD.isa_int_str, SD.isa_int_tuple, SD.isa_int_list, SD.isa_str_int, SD.isa_str_bool, SD.isa_str_str, SD.isa_str_tuple, SD.isa_str_list, SD.isa_tuple_int, SD.isa_tuple_bool, SD.isa_tuple_str, SD.isa_tuple_tuple, SD.isa_tuple_list, SD.isa_list_int, SD.isa_list_bool, SD.isa_list_str, SD.isa_list_tuple, SD.isa_list_list, List.length_cons, List.length_nil, List.map_cons, List.map_nil, List.set_cons_zero, List.set_cons_succ, List.replicate_succ, List.replicate_zero, List.cons_append, List.nil_append, List.zipWith_cons_cons, List.zipWith_nil_left, Nat.add_sub_cancel, Nat.reduceAdd, Nat.reduceSub, Nat.zero_add, Nat.sub_self, and_true, true_and, reduceCtorEq, if_true, if_false, ite_true, ite_false, Bool.false_eq_true, Bool.not_true, Bool.not_false, decide_eq_true_eq, cellL_new, List.isEmpty_nil])
    exact trQ_app rfl h
  | cons s r =>
    ((try simp only [SD.startD, List.length_cons, List.length_nil, List.map_cons, List.map_nil, List.replicate_succ, List.replicate_zero, List.cons_append, List.nil_append, Nat.reduceAdd, Nat.reduceSub, Nat.zero_add]); simp only [↓SD.ev_nil, ↓SD.ev_seq, ↓SD.ev_next, ↓SD.ev_break, ↓SD.ev_cont, ↓SD.ev_expr, ↓SD.ev_ret, ↓SD.ev_retN, ↓SD.ev_asg, ↓SD.ev_aug, ↓SD.ev_if, ↓SD.ev_for, ↓SD.ev_raise, ↓SD.ev_try, ↓SD.ev_var, ↓SD.ev_c, ↓SD.ev_glob, ↓SD.ev_tup, ↓SD.ev_lst, ↓SD.ev_bin, ↓SD.ev_un, ↓SD.ev_b1, ↓SD.ev_tE, ↓SD.ev_tNot, ↓SD.ev_tAnd, ↓SD.ev_tOr, ↓SD.ev_tYes, ↓SD.ev_not, ↓SD.ev_and, ↓SD.ev_or, ↓SD.ev_ifE, ↓SD.ev_cmp, ↓SD.ev_chain, ↓SD.ev_ix, ↓SD.ev_slice, ↓SD.ev_part1, ↓SD.ev_part0, ↓SD.ev_call, ↓SD.ev_callV, ↓SD.ev_app, ↓SD.ev_gVar, ↓SD.ev_gTup, ↓SD.ev_gIx, ↓SD.ev_iE, ↓SD.ev_iRange1, ↓SD.ev_iRange2, ↓SD.ev_iZip, ↓SD.ev_comp, ↓SD.ev_tupC, ↓SD.ev_allC, ↓SD.ev_anyC, ↓SD.ev_cComp, ↓SD.eList, ↓SD.gSeq, ↓SD.look_zero, ↓SD.look_succ, ↓SD.isa_non, ↓SD.isa_bl, ↓SD.isa_int, ↓SD.isa_str, ↓SD.isa_tup, ↓SD.isa_lref, ↓SD.ite_tt, ↓SD.ite_ff, SD.add_1, SD.add_2, SD.add_3, SD.add_4, SD.sub_1, SD.sub_2, SD.mul_1, SD.mul_2, SD.fdiv_1, SD.mod_1, SD.pow_1, SD.neg_1, SD.tr_non, SD.tr_bl, SD.tr_int, SD.tr_str, SD.tr_tup, SD.tr_lref, SD.lt_1, SD.le_1, SD.is_1, SD.is_2, SD.is_3, SD.is_4, SD.is_5, SD.is_6, SD.is_7, SD.cmp_eq, SD.cmp_ne, SD.cmp_lt, SD.cmp_le, SD.cmp_gt, SD.cmp_ge, SD.cmp_is, SD.cmp_isnot, SD.cmp_in, SD.cmp_notin, SD.eqk_int, SD.eqk_bl, SD.ix_tup, SD.ix_lref, SD.len_tup, SD.len_lref, SD.len_str, SD.abs_int, SD.int_int, SD.int_bl, SD.tuple_tup, SD.tuple_lref, SD.list_tup, SD.list_lref, SD.witer_tup, SD.witer_lref, SD.wzip_tup, SD.wipe_nil, SD.wipe_cons, SD.tru_nil, SD.tru_bl, SD.dE, SD.pairs, SD.allD, SD.anyD, SD.atI_0, SD.atI_1, SD.atI_2, SD.atI_3, SD.isa_NoneType_int, SD.isa_NoneType_bool, SD.isa_NoneType_str, SD.isa_NoneType_tuple, SD.isa_NoneType_list, SD.isa_bool_int, SD.isa_bool_bool, SD.isa_bool_str, SD.isa_bool_tuple, SD.isa_bool_list, SD.isa_int_int, SD.isa_int_bool, SD.isa_int_str, SD.isa_int_tuple, SD.isa_int_list, SD.isa_str_int, SD.isa_str_bool, SD.isa_str_str, SD.isa_str_tuple, SD.isa_str_list, SD.isa_tuple_int, SD.isa_tuple_bool, SD.isa_tuple_str, SD.isa_tuple_tuple, SD.isa_tuple_list, SD.isa_list_int, SD.isa_list_bool, SD.isa_list_str, SD.isa_list_tuple, SD.isa_list_list, List.length_cons, List.length_nil, List.map_cons, List.map_nil, List.set_cons_zero, List.set_cons_succ, List.replicate_succ, List.replicate_zero, List.cons_append, List.nil_append, List.zipWith_cons_cons, List.zipWith_nil_left, Nat.add_sub_cancel, Nat.reduceAdd, Nat.reduceSub, Nat.zero_add, Nat.sub_self, and_true, true_and, reduceCtorEq, if_true, if_false, ite_true, ite_false, Bool.false_eq_true, Bool.not_true, Bool.not_false, decide_eq_true_eq, cellL_new, List.isEmpty_cons, witer_lref])
    dsimp only at h
    have hs : BW 50 s := hb2 s List.mem_cons_self
    have hl3 : r.length + 1 ≤ 1000 := hl2
    refine ⟨by rw [List.length_map]; exact line1000 hl3, ?_⟩
    have kp : ∀ (c : Cell), (S ++ [c])[S.length]? = some c := fun c => by simp
    refine comp_pure (p := fun d => decide (s.cross (wayOf d) ≠ .zero)) (f := id) (kp _) (fun d m Kt Kf k => ?_) ?_
    · obtain ⟨v, hv, rfl⟩ := List.mem_map.mp (show d ∈ (s :: r).map wy from m)
      have hvb := hb2 v hv
      rw [wayOf_wy] at k
      ((try simp only [SD.startD, List.length_cons, List.length_nil, List.map_cons, List.map_nil, List.replicate_succ, List.replicate_zero, List.cons_append, List.nil_append, Nat.reduceAdd, Nat.reduceSub, Nat.zero_add]); simp only [↓SD.ev_nil, ↓SD.ev_seq, ↓SD.ev_next, ↓SD.ev_break, ↓SD.ev_cont, ↓SD.ev_expr, ↓SD.ev_ret, ↓SD.ev_retN, ↓SD.ev_asg, ↓SD.ev_aug, ↓SD.ev_if, ↓SD.ev_for, ↓SD.ev_raise, ↓SD.ev_try, ↓SD.ev_var, ↓SD.ev_c, ↓SD.ev_glob, ↓SD.ev_tup, ↓SD.ev_lst, ↓SD.ev_bin, ↓SD.ev_un, ↓SD.ev_b1, ↓SD.ev_tE, ↓SD.ev_tNot, ↓SD.ev_tAnd, ↓SD.ev_tOr, ↓SD.ev_tYes, ↓SD.ev_not, ↓SD.ev_and, ↓SD.ev_or, ↓SD.ev_ifE, ↓SD.ev_cmp, ↓SD.ev_chain, ↓SD.ev_ix, ↓SD.ev_slice, ↓SD.ev_part1, ↓SD.ev_part0, ↓SD.ev_call, ↓SD.ev_callV, ↓SD.ev_app, ↓SD.ev_gVar, ↓SD.ev_gTup, ↓SD.ev_gIx, ↓SD.ev_iE, ↓SD.ev_iRange1, ↓SD.ev_iRange2, ↓SD.ev_iZip, ↓SD.ev_comp, ↓SD.ev_tupC, ↓SD.ev_allC, ↓SD.ev_anyC, ↓SD.ev_cComp, ↓SD.eList, ↓SD.gSeq, ↓SD.look_zero, ↓SD.look_succ, ↓SD.isa_non, ↓SD.isa_bl, ↓SD.isa_int, ↓SD.isa_str, ↓SD.isa_tup, ↓SD.isa_lref, ↓SD.ite_tt, ↓SD.ite_ff, SD.add_1, SD.add_2, SD.add_3, SD.add_4, SD.sub_1, SD.sub_2, SD.mul_1, SD.mul_2, SD.fdiv_1, SD.mod_1, SD.pow_1, SD.neg_1, SD.tr_non, SD.tr_bl, SD.tr_int, SD.tr_str, SD.tr_tup, SD.tr_lref, SD.lt_1, SD.le_1, SD.is_1, SD.is_2, SD.is_3, SD.is_4, SD.is_5, SD.is_6, SD.is_7, SD.cmp_eq, SD.cmp_ne, SD.cmp_lt, SD.cmp_le, SD.cmp_gt, SD.cmp_ge, SD.cmp_is, SD.cmp_isnot, SD.cmp_in, SD.cmp_notin, SD.eqk_int, SD.eqk_bl, SD.ix_tup, SD.ix_lref, SD.len_tup, SD.len_lref, SD.len_str, SD.abs_int, SD.int_int, SD.int_bl, SD.tuple_tup, SD.tuple_lref, SD.list_tup, SD.list_lref, SD.witer_tup, SD.witer_lref, SD.wzip_tup, SD.wipe_nil, SD.wipe_cons, SD.tru_nil, SD.tru_bl, SD.dE, SD.pairs, SD.allD, SD.anyD, SD.atI_0, SD.atI_1, SD.atI_2, SD.atI_3, SD.isa_NoneType_int, SD.isa_NoneType_bool, SD.isa_NoneType_str, SD.isa_NoneType_tuple, SD.isa_NoneType_list, SD.isa_bool_int, SD.isa_bool_bool, SD.isa_bool_str, SD.isa_bool_tuple, SD.isa_bool_list, SD.isa_int_int, SD.isa_int_bool, SD.isa_int_str, SD.isa_int_tuple, SD.isa_int_list, SD.isa_str_int, SD.isa_str_bool, SD.isa_str_str, SD.isa_str_tuple, SD.isa_str_list, SD.isa_tuple_int, SD.isa_tuple_bool, SD.isa_tuple_str, SD.isa_tuple_tuple, SD.isa_tuple_list, SD.isa_list_int, SD.isa_list_bool, SD.isa_list_str, SD.isa_list_tuple, SD.isa_list_list, List.length_cons, List.length_nil, List.map_cons, List.map_nil, List.set_cons_zero, List.set_cons_succ, List.replicate_succ, List.replicate_zero, List.cons_append, List.nil_append, List.zipWith_cons_cons, List.zipWith_nil_left, Nat.add_sub_cancel, Nat.reduceAdd, Nat.reduceSub, Nat.zero_add, Nat.sub_self, and_true, true_and, reduceCtorEq, if_true, if_false, ite_true, ite_false, Bool.false_eq_true, Bool.not_true, Bool.not_false, decide_eq_true_eq, cellL_new, h1, sp_are_along, spW2_wy, w_n2])
      walk_at "sides"
      by_cases hz : s.cross v = .zero
      · simpa [hz] using k
      · simpa [hz] using k
    rw [List.map_id]
    have ef2 : (wy s :: r.map wy).filter (fun d => decide (s.cross (wayOf d) ≠ .zero)) = ((s :: r).filter fun v => decide (s.cross v ≠ .zero)).map wy := by
      rw [← List.map_cons, filter_wy]
      congr 2
      funext v
      rw [wayOf_wy]
    rw [ef2]
    have hb3 : ∀ v ∈ (s :: r).filter (fun v => decide (s.cross v ≠ .zero)), BW 50 v := fun v m => hb2 v (List.mem_filter.mp m).1
    generalize (s :: r).filter (fun v => decide (s.cross v ≠ .zero)) = side' at h hb3 ⊢
    cases side' with
    | nil =>
      ((try simp only [SD.startD, List.length_cons, List.length_nil, List.map_cons, List.map_nil, List.replicate_succ, List.replicate_zero, List.cons_append, List.nil_append, Nat.reduceAdd, Nat.reduceSub, Nat.zero_add]); simp only [↓SD.ev_nil, ↓SD.ev_seq, ↓SD.ev_next, ↓SD.ev_break, ↓SD.ev_cont, ↓SD.ev_expr, ↓SD.ev_ret, ↓SD.ev_retN, ↓SD.ev_asg, ↓SD.ev_aug, ↓SD.ev_if, ↓SD.ev_for, ↓SD.ev_raise, ↓SD.ev_try, ↓SD.ev_var, ↓SD.ev_c, ↓SD.ev_glob, ↓SD.ev_tup, ↓SD.ev_lst, ↓SD.ev_bin, ↓SD.ev_un, ↓SD.ev_b1, ↓SD.ev_tE, ↓SD.ev_tNot, ↓SD.ev_tAnd, ↓SD.ev_tOr, ↓SD.ev_tYes, ↓SD.ev_not, ↓SD.ev_and, ↓SD.ev_or, ↓SD.ev_ifE, ↓SD.ev_cmp, ↓SD.ev_chain, ↓SD.ev_ix, ↓SD.ev_slice, ↓SD.ev_part1, ↓SD.ev_part0, ↓SD.ev_call, ↓SD.ev_callV, ↓SD.ev_app, ↓SD.ev_gVar, ↓SD.ev_gTup, ↓SD.ev_gIx, ↓SD.ev_iE, ↓SD.ev_iRange1, ↓SD.ev_iRange2, ↓SD.ev_iZip, ↓SD.ev_comp, ↓SD.ev_tupC, ↓SD.ev_allC, ↓SD.ev_anyC, ↓SD.ev_cComp, ↓SD.eList, ↓SD.gSeq, ↓SD.look_zero, ↓SD.look_succ, ↓SD.isa_non, ↓SD.isa_bl, ↓SD.isa_int, ↓SD.isa_str, ↓SD.isa_tup, ↓SD.isa_lref, ↓SD.ite_tt, ↓SD.ite_ff, SD.add_1, SD.add_2, SD.add_3, SD.add_4, SD.sub_1, SD.sub_2, SD.mul_1, SD.mul_2, SD.fdiv_1, SD.mod_1, SD.pow_1, SD.neg_1, SD.tr_non, SD.tr_bl, SD.tr_int, SD.tr_str, SD.tr_tup, SD.tr_lref, SD.lt_1, SD.le_1, SD.is_1, SD.is_2, SD.is_3, SD.is_4, SD.is_5, SD.is_6, SD.is_7, SD.cmp_eq, SD.cmp_ne, SD.cmp_lt, SD.cmp_le, SD.cmp_gt, SD.cmp_ge, SD.cmp_is, SD.cmp_isnot, SD.cmp_in, SD.cmp_notin, SD.eqk_int, SD.eqk_bl, SD.ix_tup, SD.ix_lref, SD.len_tup, SD.len_lref, SD.len_str, SD.abs_int, SD.int_int, SD.int_bl, SD.tuple_tup, SD.tuple_lref, SD.list_tup, SD.list_lref, SD.witer_tup, SD.witer_lref, SD.wzip_tup, SD.wipe_nil, SD.wipe_cons, SD.tru_nil, SD.tru_bl, SD.dE, SD.pairs, SD.allD, SD.anyD, SD.atI_0, SD.atI_1, SD.atI_2, SD.atI_3, SD.isa_NoneType_int, SD.isa_NoneType_bool, SD.isa_NoneType_str, SD.isa_NoneType_tuple, SD.isa_NoneType_list, SD.isa_bool_int, SD.isa_bool_bool, SD.isa_bool_str, SD.isa_bool_tuple, SD.isa_bool_list, SD.isa_int_int, SD.isa_int_bool, SD.isa_int_str, SD.isa_int_tuple, SD.isa_int_list, SD.isa_str_int, SD.isa_str_bool, SD.isa_str_str, SD.isa_str_tuple, SD.isa_str_list, SD.isa_tuple_int, SD.isa_tuple_bool, SD.isa_tuple_str, SD.isa_tuple_tuple, SD.isa_tuple_list, SD.isa_list_int, SD.isa_list_bool, SD.isa_list_str, SD.isa_list_tuple, SD.isa_list_list, List.length_cons, List.length_nil, List.map_cons, List.map_nil, List.set_cons_zero, List.set_cons_succ, List.replicate_succ, List.replicate_zero, List.cons_append, List.nil_append, List.zipWith_cons_cons, List.zipWith_nil_left, Nat.add_sub_cancel, Nat.reduceAdd, Nat.reduceSub, Nat.zero_add, Nat.sub_self, and_true, true_and, reduceCtorEq, if_true, if_false, ite_true, ite_false, Bool.false_eq_true, Bool.not_true, Bool.not_false, decide_eq_true_eq, List.isEmpty_nil])
      rw [List.append_assoc]
      exact trQ_app rfl h
    | cons a l =>
      have ha : BW 50 a := hb3 a List.mem_cons_self
      ((try simp only [SD.startD, List.length_cons, List.length_nil, List.map_cons, List.map_nil, List.replicate_succ, List.replicate_zero, List.cons_append, List.nil_append, Nat.reduceAdd, Nat.reduceSub, Nat.zero_add]); simp only [↓SD.ev_nil, ↓SD.ev_seq, ↓SD.ev_next, ↓SD.ev_break, ↓SD.ev_cont, ↓SD.ev_expr, ↓SD.ev_ret, ↓SD.ev_retN, ↓SD.ev_asg, ↓SD.ev_aug, ↓SD.ev_if, ↓SD.ev_for, ↓SD.ev_raise, ↓SD.ev_try, ↓SD.ev_var, ↓SD.ev_c, ↓SD.ev_glob, ↓SD.ev_tup, ↓SD.ev_lst, ↓SD.ev_bin, ↓SD.ev_un, ↓SD.ev_b1, ↓SD.ev_tE, ↓SD.ev_tNot, ↓SD.ev_tAnd, ↓SD.ev_tOr, ↓SD.ev_tYes, ↓SD.ev_not, ↓SD.ev_and, ↓SD.ev_or, ↓SD.ev_ifE, ↓SD.ev_cmp, ↓SD.ev_chain, ↓SD.ev_ix, ↓SD.ev_slice, ↓SD.ev_part1, ↓SD.ev_part0, ↓SD.ev_call, ↓SD.ev_callV, ↓SD.ev_app, ↓SD.ev_gVar, ↓SD.ev_gTup, ↓SD.ev_gIx, ↓SD.ev_iE, ↓SD.ev_iRange1, ↓SD.ev_iRange2, ↓SD.ev_iZip, ↓SD.ev_comp, ↓SD.ev_tupC, ↓SD.ev_allC, ↓SD.ev_anyC, ↓SD.ev_cComp, ↓SD.eList, ↓SD.gSeq, ↓SD.look_zero, ↓SD.look_succ, ↓SD.isa_non, ↓SD.isa_bl, ↓SD.isa_int, ↓SD.isa_str, ↓SD.isa_tup, ↓SD.isa_lref, ↓SD.ite_tt, ↓SD.ite_ff, SD.add_1, SD.add_2, SD.add_3, SD.add_4, SD.sub_1, SD.sub_2, SD.mul_1, SD.mul_2, SD.fdiv_1, SD.mod_1, SD.pow_1, SD.neg_1, SD.tr_non, SD.tr_bl, SD.tr_int, SD.tr_str, SD.tr_tup, SD.tr_lref, SD.lt_1, SD.le_1, SD.is_1, SD.is_2, SD.is_3, SD.is_4, SD.is_5, SD.is_6, SD.is_7, SD.cmp_eq, SD.cmp_ne, SD.cmp_lt, SD.cmp_le, SD.cmp_gt, SD.cmp_ge, SD.cmp_is, SD.cmp_isnot, SD.cmp_in, SD.cmp_notin, SD.eqk_int, SD.eqk_bl, SD.ix_tup, SD.ix_lref, SD.len_tup, SD.len_lref, SD.len_str, SD.abs_int, SD.int_int, SD.int_bl, SD.tuple_tup, SD.tuple_lref, SD.list_tup, SD.list_lref, SD.witer_tup, SD.witer_lref, SD.wzip_tup, SD.wipe_nil, SD.wipe_cons, SD.tru_nil, SD.tru_bl, SD.dE, SD.pairs, SD.allD, SD.anyD, SD.atI_0, SD.atI_1, SD.atI_2, SD.atI_3, SD.isa_NoneType_int, SD.isa_NoneType_bool, SD.isa_NoneType_str, SD.isa_NoneType_tuple, SD.isa_NoneType_list, SD.isa_bool_int, SD.isa_bool_bool, SD.isa_bool_str, SD.isa_bool_tuple, SD.isa_bool_list, SD.isa_int_int, SD.isa_int_bool, SD.isa_int_str, SD.isa_int_tuple, SD.isa_int_list, SD.isa_str_int, SD.isa_str_bool, SD.isa_str_str, SD.isa_str_tuple, SD.isa_str_list, SD.isa_tuple_int, SD.isa_tuple_bool, SD.isa_tuple_str, SD.isa_tuple_tuple, SD.isa_tuple_list, SD.isa_list_int, SD.isa_list_bool, SD.isa_list_str, SD.isa_list_tuple, SD.isa_list_list, List.length_cons, List.length_nil, List.map_cons, List.map_nil, List.set_cons_zero, List.set_cons_succ, List.replicate_succ, List.replicate_zero, List.cons_append, List.nil_append, List.zipWith_cons_cons, List.zipWith_nil_left, Nat.add_sub_cancel, Nat.reduceAdd, Nat.reduceSub, Nat.zero_add, Nat.sub_self, and_true, true_and, reduceCtorEq, if_true, if_false, ite_true, ite_false, Bool.false_eq_true, Bool.not_true, Bool.not_false, decide_eq_true_eq, List.isEmpty_cons, h2, h3, sp_cross, spW2_wy, w_n2, cellL_new2])
      dsimp only at h
      walk_at "sides"
      refine ⟨by rw [List.length_map]; exact line1000 hl3, ?_⟩
      refine comp_map (f := fun d => .int ((s.cross a).dot (wayOf d)).num) (by rw [List.append_assoc]; simp) (fun d m Kt k => ?_) ?_
      · obtain ⟨v, hv, rfl⟩ := List.mem_map.mp (show d ∈ (s :: r).map wy from m)
        have hvb := hb2 v hv
        rw [wayOf_wy] at k
        ((try simp only [SD.startD, List.length_cons, List.length_nil, List.map_cons, List.map_nil, List.replicate_succ, List.replicate_zero, List.cons_append, List.nil_append, Nat.reduceAdd, Nat.reduceSub, Nat.zero_add]); simp only [↓SD.ev_nil, ↓SD.ev_seq, ↓SD.ev_next, ↓SD.ev_break, ↓SD.ev_cont, ↓SD.ev_expr, ↓SD.ev_ret, ↓SD.ev_retN, ↓SD.ev_asg, ↓SD.ev_aug, ↓SD.ev_if, ↓SD.ev_for, ↓SD.ev_raise, ↓SD.ev_try, ↓SD.ev_var, ↓SD.ev_c, ↓SD.ev_glob, ↓SD.ev_tup, ↓SD.ev_lst, ↓SD.ev_bin, ↓SD.ev_un, ↓SD.ev_b1, ↓SD.ev_tE, ↓SD.ev_tNot, ↓SD.ev_tAnd, ↓SD.ev_tOr, ↓SD.ev_tYes, ↓SD.ev_not, ↓SD.ev_and, ↓SD.ev_or, ↓SD.ev_ifE, ↓SD.ev_cmp, ↓SD.ev_chain, ↓SD.ev_ix, ↓SD.ev_slice, ↓SD.ev_part1, ↓SD.ev_part0, ↓SD.ev_call, ↓SD.ev_callV, ↓SD.ev_app, ↓SD.ev_gVar, ↓SD.ev_gTup, ↓SD.ev_gIx, ↓SD.ev_iE, ↓SD.ev_iRange1, ↓SD.ev_iRange2, ↓SD.ev_iZip, ↓SD.ev_comp, ↓SD.ev_tupC, ↓SD.ev_allC, ↓SD.ev_anyC, ↓SD.ev_cComp, ↓SD.eList, ↓SD.gSeq, ↓SD.look_zero, ↓SD.look_succ, ↓SD.isa_non, ↓SD.isa_bl, ↓SD.isa_int, ↓SD.isa_str, ↓SD.isa_tup, ↓SD.isa_lref, ↓SD.ite_tt, ↓SD.ite_ff, SD.add_1, SD.add_2, SD.add_3, SD.add_4, SD.sub_1, SD.sub_2, SD.mul_1, SD.mul_2, SD.fdiv_1, SD.mod_1, SD.pow_1, SD.neg_1, SD.tr_non, SD.tr_bl, SD.tr_int, SD.tr_str, SD.tr_tup, SD.tr_lref, SD.lt_1, SD.le_1, SD.is_1, SD.is_2, SD.is_3, SD.is_4, SD.is_5, SD.is_6, SD.is_7, SD.cmp_eq, SD.cmp_ne, SD.cmp_lt, SD.cmp_le, SD.cmp_gt, SD.cmp_ge, SD.cmp_is, SD.cmp_isnot, SD.cmp_in, SD.cmp_notin, SD.eqk_int, SD.eqk_bl, SD.ix_tup, SD.ix_lref, SD.len_tup, SD.len_lref, SD.len_str, SD.abs_int, SD.int_int, SD.int_bl, SD.tuple_tup, SD.tuple_lref, SD.list_tup, SD.list_lref, SD.witer_tup, SD.witer_lref, SD.wzip_tup, SD.wipe_nil, SD.wipe_cons, SD.tru_nil, SD.tru_bl, SD.dE, SD.pairs, SD.allD, SD.anyD, SD.atI_0, SD.atI_1, SD.atI_2, SD.atI_3, SD.isa_NoneType_int, SD.isa_NoneType_bool, SD.isa_NoneType_str, SD.isa_NoneType_tuple, SD.isa_NoneType_list, SD.isa_bool_int, SD.isa_bool_bool, SD.isa_bool_str, SD.isa_bool_tuple, SD.isa_bool_list, SD.isa_int_int, SD.isa_int_bool, SD.isa_int_str, SD.isa_int_tuple, SD.isa_int_list, SD.isa_str_int, SD.isa_str_bool, SD.isa_str_str, SD.isa_str_tuple, SD.isa_str_list, SD.isa_tuple_int, SD.isa_tuple_bool, SD.isa_tuple_str, SD.isa_tuple_tuple, SD.isa_tuple_list, SD.isa_list_int, SD.isa_list_bool, SD.isa_list_str, SD.isa_list_tuple, SD.isa_list_list, List.length_cons, List.length_nil, List.map_cons, List.map_nil, List.set_cons_zero, List.set_cons_succ, List.replicate_succ, List.replicate_zero, List.cons_append, List.nil_append, List.zipWith_cons_cons, List.zipWith_nil_left, Nat.add_sub_cancel, Nat.reduceAdd, Nat.reduceSub, Nat.zero_add, Nat.sub_self, and_true, true_and, reduceCtorEq, if_true, if_false, ite_true, ite_false, Bool.false_eq_true, Bool.not_true, Bool.not_false, decide_eq_true_eq, h3, sp_dot, spW2_wy, w_n2, ix_fr0])
        walk_at "sides"
        exact k
      rw [truths_num]
      dsimp only
      rw [any_id, show ((wy s :: r.map wy).any fun d => decide ((s.cross a).dot (wayOf d) ≠ 0)) = ((s :: r).any fun v => decide ((s.cross a).dot v ≠ 0)) by
        rw [← List.map_cons, List.any_map]
        congr 1
        funext v
        show decide ((s.cross a).dot (wayOf (wy v)) ≠ 0) = _
        rw [wayOf_wy]]
      rw [List.append_assoc]
      split at h <;> rename_i hc
      · rw [if_pos hc]
        exact trQ_app rfl h
      · rw [if_neg hc]
        exact trQ_app rfl h
end SP

-- SPa
set_option Elab.async false
set_option linter.all false
set_option maxRecDepth 100000
set_option maxHeartbeats 1000000
namespace SP
open PySem L2 SD SL
def spW4 (pre : W3 → W3 → W3 → W3 → Prop) (r : W3 → W3 → W3 → W3 → D) : FnD := ⟨4, fun ds S _ Q => ∃ t u v w, ds = [wy t, wy u, wy v, wy w] ∧ pre t u v w ∧ Q (r t u v w) S⟩
theorem w_n4 {pre : W3 → W3 → W3 → W3 → Prop} {r : W3 → W3 → W3 → W3 → D} : (spW4 pre r).n = 4 := rfl
theorem spW4_wy {pre : W3 → W3 → W3 → W3 → Prop} {r : W3 → W3 → W3 → W3 → D} {t u v w : W3} {S : Store} {E : QX} {Q : QV} : (spW4 pre r).sp [wy t, wy u, wy v, wy w] S E Q = (pre t u v w ∧ Q (r t u v w) S) := by
  refine propext ⟨fun ⟨a, b, c, d, e, h⟩ => ?_, fun h => ⟨t, u, v, w, rfl, h⟩⟩
  injection e with e1 e
  injection e with e2 e
  injection e with e3 e
  injection e with e4 e
  rw [wy_inj.mp e1, wy_inj.mp e2, wy_inj.mp e3, wy_inj.mp e4]
  exact h
def boxW (u v w : W3) : Rat := (u.cross v).dot w
def partsW (t u v w : W3) : W3 := ⟨boxW t v w * (boxW u v w)⁻¹, boxW u t w * (boxW u v w)⁻¹, boxW u v t * (boxW u v w)⁻¹⟩
def partsD (t u v w : W3) : D := if boxW u v w = 0 then .non else wy (partsW t u v w)
def sp_parts_of : FnD := spW4 (fun t u v w => BW 50 t ∧ BW 50 u ∧ BW 50 v ∧ BW 50 w) partsD
theorem h_parts_of (T : Tab) (h1 : T.sp "box" = some sp_box) (h2 : T.sp "turned" = some sp_turned) (h3 : T.sp "multiplied" = some sp_multiplied) : Meets sp_parts_of N_parts_of (t_parts_of T) := by
  rintro ds S E Q hl ⟨t, u, v, w, rfl, ⟨ht, hu, hv, hw⟩, h⟩
  unfold t_parts_of N_parts_of
  have e : ∀ a b c : W3, (a.cross b).dot c = boxW a b c := fun _ _ _ => rfl
  have bb : ∀ {a b c : W3}, BW 50 a → BW 50 b → BW 50 c → B 755 (boxW a b c) := fun ha hb hc => B_of (B_dot' (BW_cross' ha hb) hc) (by decide)
  have b0 := bb hu hv hw
  have b1 := bb ht hv hw
  have b2 := bb hu ht hw
  have b3 := bb hu hv ht
  unfold partsD at h
  by_cases hz : boxW u v w = 0
  · rw [if_pos hz] at h
    ((try simp only [SD.startD, List.length_cons, List.length_nil, List.map_cons, List.map_nil, List.replicate_succ, List.replicate_zero, List.cons_append, List.nil_append, Nat.reduceAdd, Nat.reduceSub, Nat.zero_add]); simp only [↓SD.ev_nil, ↓SD.ev_seq, ↓SD.ev_next, ↓SD.ev_break, ↓SD.ev_cont, ↓SD.ev_expr, ↓SD.ev_ret, ↓SD.ev_retN, ↓SD.ev_asg, ↓SD.ev_aug, ↓SD.ev_if, ↓SD.ev_for, ↓SD.ev_raise, ↓SD.ev_try, ↓SD.ev_var, ↓SD.ev_c, ↓SD.ev_glob, ↓SD.ev_tup, ↓SD.ev_lst, ↓SD.ev_bin, ↓SD.ev_un, ↓SD.ev_b1, ↓SD.ev_tE, ↓SD.ev_tNot, ↓SD.ev_tAnd, ↓SD.ev_tOr, ↓SD.ev_tYes, ↓SD.ev_not, ↓SD.ev_and, ↓SD.ev_or, ↓SD.ev_ifE, ↓SD.ev_cmp, ↓SD.ev_chain, ↓SD.ev_ix, ↓SD.ev_slice, ↓SD.ev_part1, ↓SD.ev_part0, ↓SD.ev_call, ↓SD.ev_callV, ↓SD.ev_app, ↓SD.ev_gVar, ↓SD.ev_gTup, ↓SD.ev_gIx, ↓SD.ev_iE, ↓SD.ev_iRange1, ↓SD.ev_iRange2, ↓SD.ev_iZip, ↓SD.ev_comp, ↓SD.ev_tupC, ↓SD.ev_allC, ↓SD.ev_anyC, ↓SD.ev_cComp, ↓SD.eList, ↓SD.gSeq, ↓SD.look_zero, ↓SD.look_succ, ↓SD.isa_non, ↓SD.isa_bl, ↓SD.isa_int, ↓SD.isa_str, ↓SD.isa_tup, ↓SD.isa_lref, ↓SD.ite_tt, ↓SD.ite_ff, SD.add_1, SD.add_2, SD.add_3, SD.add_4, SD.sub_1, SD.sub_2, SD.mul_1, SD.mul_2, SD.fdiv_1, SD.mod_1, SD.pow_1, SD.neg_1, SD.tr_non, SD.tr_bl, SD.tr_int, SD.tr_str, SD.tr_tup, SD.tr_lref, SD.lt_1, SD.le_1, SD.is_1, SD.is_2, SD.is_3, SD.is_4, SD.is_5, SD.is_6, SD.is_7, SD.cmp_eq, SD.cmp_ne, SD.cmp_lt, SD.cmp_le, SD.cmp_gt, SD.cmp_ge, SD.cmp_is, SD.cmp_isnot, SD.cmp_in, SD.cmp_notin, SD.eqk_int, SD.eqk_bl, SD.ix_tup, SD.ix_lref, SD.len_tup, SD.len_lref, SD.len_str, SD.abs_int, SD.int_int, SD.int_bl, SD.tuple_tup, SD.tuple_lref, SD.list_tup, SD.list_lref, SD.witer_tup, SD.witer_lref, SD.wzip_tup, SD.wipe_nil, SD.wipe_cons, SD.tru_nil, SD.tru_bl, SD.dE, SD.pairs, SD.allD, SD.anyD, SD.atI_0, SD.atI_1, SD.atI_2, SD.atI_3, SD.isa_NoneType_int, SD.isa_NoneType_bool, SD.isa_NoneType_str, SD.isa_NoneType_tuple, SD.isa_NoneType_list, SD.isa_bool_int, SD.isa_bool_bool, SD.isa_bool_str, SD.isa_bool_tuple, SD.isa_bool_list, SD.isa_int_int, SD.isa_int_bool, SD.isa_int_str, SD.isa_int_tuple, SD.isa_int_list, SD.isa_str_int, SD.isa_str_bool, SD.isa_str_str, SD.isa_str_tuple, SD.isa_str_list, SD.isa_tuple_int, SD.isa_tuple_bool, SD.isa_tuple_str, SD.isa_tuple_tuple, SD.isa_tuple_list, SD.isa_list_int, SD.isa_list_bool, SD.isa_list_str, SD.isa_list_tuple, SD.isa_list_list, List.length_cons, List.length_nil, List.map_cons, List.map_nil, List.set_cons_zero, List.set_cons_succ, List.replicate_succ, List.replicate_zero, List.cons_append, List.nil_append, List.zipWith_cons_cons, List.zipWith_nil_left, Nat.add_sub_cancel, Nat.reduceAdd, Nat.reduceSub, Nat.zero_add, Nat.sub_self, and_true, true_and, reduceCtorEq, if_true, if_false, ite_true, ite_false, Bool.false_eq_true, Bool.not_true, Bool.not_false, decide_eq_true_eq, SD.forLoop, SD.compLoop, h1, sp_box, spW3_wy, w_n3, e, ix_fr0, num_ne, hz, decide_true, decide_false, not_true_eq_false, ne_eq])
    walk_at "sides"
    exact trQ_self rfl h
  · rw [if_neg hz] at h
    ((try simp only [SD.startD, List.length_cons, List.length_nil, List.map_cons, List.map_nil, List.replicate_succ, List.replicate_zero, List.cons_append, List.nil_append, Nat.reduceAdd, Nat.reduceSub, Nat.zero_add]); simp only [↓SD.ev_nil, ↓SD.ev_seq, ↓SD.ev_next, ↓SD.ev_break, ↓SD.ev_cont, ↓SD.ev_expr, ↓SD.ev_ret, ↓SD.ev_retN, ↓SD.ev_asg, ↓SD.ev_aug, ↓SD.ev_if, ↓SD.ev_for, ↓SD.ev_raise, ↓SD.ev_try, ↓SD.ev_var, ↓SD.ev_c, ↓SD.ev_glob, ↓SD.ev_tup, ↓SD.ev_lst, ↓SD.ev_bin, ↓SD.ev_un, ↓SD.ev_b1, ↓SD.ev_tE, ↓SD.ev_tNot, ↓SD.ev_tAnd, ↓SD.ev_tOr, ↓SD.ev_tYes, ↓SD.ev_not, ↓SD.ev_and, ↓SD.ev_or, ↓SD.ev_ifE, ↓SD.ev_cmp, ↓SD.ev_chain, ↓SD.ev_ix, ↓SD.ev_slice, ↓SD.ev_part1, ↓SD.ev_part0, ↓SD.ev_call, ↓SD.ev_callV, ↓SD.ev_app, ↓SD.ev_gVar, ↓SD.ev_gTup, ↓SD.ev_gIx, ↓SD.ev_iE, ↓SD.ev_iRange1, ↓SD.ev_iRange2, ↓SD.ev_iZip, ↓SD.ev_comp, ↓SD.ev_tupC, ↓SD.ev_allC, ↓SD.ev_anyC, ↓SD.ev_cComp, ↓SD.eList, ↓SD.gSeq, ↓SD.look_zero, ↓SD.look_succ, ↓SD.isa_non, ↓SD.isa_bl, ↓SD.isa_int, ↓SD.isa_str, ↓SD.isa_tup, ↓SD.isa_lref, ↓SD.ite_tt, ↓SD.ite_ff, SD.add_1, SD.add_2, SD.add_3, SD.add_4, SD.sub_1, SD.sub_2, SD.mul_1, SD.mul_2, SD.fdiv_1, SD.mod_1, SD.pow_1, SD.neg_1, SD.tr_non, SD.tr_bl, SD.tr_int, SD.tr_str, SD.tr_tup, SD.tr_lref, SD.lt_1, SD.le_1, SD.is_1, SD.is_2, SD.is_3, SD.is_4, SD.is_5, SD.is_6, SD.is_7, SD.cmp_eq, SD.cmp_ne, SD.cmp_lt, SD.cmp_le, SD.cmp_gt, SD.cmp_ge, SD.cmp_is, SD.cmp_isnot, SD.cmp_in, SD.cmp_notin, SD.eqk_int, SD.eqk_bl, SD.ix_tup, SD.ix_lref, SD.len_tup, SD.len_lref, SD.len_str, SD.abs_int, SD.int_int, SD.int_bl, SD.tuple_tup, SD.tuple_lref, SD.list_tup, SD.list_lref, SD.witer_tup, SD.witer_lref, SD.wzip_tup, SD.wipe_nil, SD.wipe_cons, SD.tru_nil, SD.tru_bl, SD.dE, SD.pairs, SD.allD, SD.anyD, SD.atI_0, SD.atI_1, SD.atI_2, SD.atI_3, SD.isa_NoneType_int, SD.isa_NoneType_bool, SD.isa_NoneType_str, SD.isa_NoneType_tuple, SD.isa_NoneType_list, SD.isa_bool_int, SD.isa_bool_bool, SD.isa_bool_str, SD.isa_bool_tuple, SD.isa_bool_list, SD.isa_int_int, SD.isa_int_bool, SD.isa_int_str, SD.isa_int_tuple, SD.isa_int_list, SD.isa_str_int, SD.isa_str_bool, SD.isa_str_str, SD.isa_str_tuple, SD.isa_str_list, SD.isa_tuple_int, SD.isa_tuple_bool, SD.isa_tuple_str, SD.isa_tuple_tuple, SD.isa_tuple_list, SD.isa_list_int, SD.isa_list_bool, SD.isa_list_str, SD.isa_list_tuple, SD.isa_list_list, List.length_cons, List.length_nil, List.map_cons, List.map_nil, List.set_cons_zero, List.set_cons_succ, List.replicate_succ, List.replicate_zero, List.cons_append, List.nil_append, List.zipWith_cons_cons, List.zipWith_nil_left, Nat.add_sub_cancel, Nat.reduceAdd, Nat.reduceSub, Nat.zero_add, Nat.sub_self, and_true, true_and, reduceCtorEq, if_true, if_false, ite_true, ite_false, Bool.false_eq_true, Bool.not_true, Bool.not_false, decide_eq_true_eq, SD.forLoop, SD.compLoop, h1, h2, h3, sp_box, sp_turned, sp_multiplied, spW3_wy, w_n3, spQ1_n, spQ1_fr, spQ2_n, spQ2_fr, e, ix_fr0, num_ne, hz, decide_true, decide_false, not_false_eq_true, ne_eq, wy_mk, it_wy])
    walk_at "sides"
    exact trQ_self rfl h
/-! sums of ways -/
def sumW (vs : List W3) : W3 := vs.foldl W3.add .zero
theorem sumW_take {vs : List W3} {i : Nat} {v : W3} (h : vs[i]? = some v) : sumW (vs.take (i + 1)) = (sumW (vs.take i)).add v := by
  unfold sumW
  rw [List.take_add_one, h, List.foldl_append]
  rfl
theorem BW_zero : BW 1 .zero := by exact ⟨B_0, B_0, B_0⟩
theorem BW_sum {k : Nat} {vs : List W3} (h : ∀ v ∈ vs, BW k v) : ∀ i, i ≤ vs.length → BW (i * (k + 1) + 1) (sumW (vs.take i))
  | 0, _ => BW_of BW_zero (by omega)
  | i + 1, hi => by
    have hv : vs[i]? = some vs[i] := List.getElem?_eq_getElem hi
    rw [sumW_take hv]
    refine BW_of (BW_add (BW_sum h i (Nat.le_of_succ_le hi)) (h _ (List.getElem_mem hi))) ?_
    rw [Nat.succ_mul]
    omega
theorem fr_one {n : Nat} (h : 0 < n) : D.tup [.int 1, .int n] = fr (Rat.divInt 1 n) := by
  have : toQ (.tup [.int 1, .int n]) = some (Rat.divInt 1 n) := if_pos ⟨by omega, by simp⟩
  exact fr_of_toQ this
def midW (vs : List W3) : W3 := (sumW vs).mul (Rat.divInt 1 vs.length)
def sp_middle_of : FnD := ⟨1, fun ds S _ Q => ∃ vs : List W3, ds = [.tup (vs.map wy)] ∧ (0 < vs.length ∧ vs.length ≤ 40 ∧ ∀ v ∈ vs, BW 50 v) ∧ Q (wy (midW vs)) S⟩
theorem B_one {n : Nat} (h : 0 < n) (h2 : n ≤ 40) : B 10 (Rat.divInt 1 n) := by
  have := divInt_le (n := 1) (d := (n : Int)) (by omega)
  exact ⟨Nat.lt_of_le_of_lt this.1 (by decide), Nat.lt_of_le_of_lt this.2 (by simp; omega)⟩
theorem h_middle_of (T : Tab) (h1 : T.sp "sum_of" = some sp_sum_of) (h2 : T.sp "scaled" = some sp_scaled) (h3 : T.sp "made" = some sp_made) (h4 : T.glob "NONE" = some (wy .zero)) : Meets sp_middle_of N_middle_of (t_middle_of T) := by
  rintro ds S E Q hl ⟨vs, rfl, ⟨hn, hm, hb⟩, h⟩
  unfold t_middle_of N_middle_of
  ((try simp only [SD.startD, List.length_cons, List.length_nil, List.map_cons, List.map_nil, List.replicate_succ, List.replicate_zero, List.cons_append, List.nil_append, Nat.reduceAdd, Nat.reduceSub, Nat.zero_add]); simp only [↓SD.ev_nil, ↓SD.ev_seq, ↓SD.ev_next, ↓SD.ev_break, ↓SD.ev_cont, ↓SD.ev_expr, ↓SD.ev_ret, ↓SD.ev_retN, ↓SD.ev_asg, ↓SD.ev_aug, ↓SD.ev_if, ↓SD.ev_for, ↓SD.ev_raise, ↓SD.ev_try, ↓SD.ev_var, ↓SD.ev_c, ↓SD.ev_glob, ↓SD.ev_tup, ↓SD.ev_lst, ↓SD.ev_bin, ↓SD.ev_un, ↓SD.ev_b1, ↓SD.ev_tE, ↓SD.ev_tNot, ↓SD.ev_tAnd, ↓SD.ev_tOr, ↓SD.ev_tYes, ↓SD.ev_not, ↓SD.ev_and, ↓SD.ev_or, ↓SD.ev_ifE, ↓SD.ev_cmp, ↓SD.ev_chain, ↓SD.ev_ix, ↓SD.ev_slice, ↓SD.ev_part1, ↓SD.ev_part0, ↓SD.ev_call, ↓SD.ev_callV, ↓SD.ev_app, ↓SD.ev_gVar, ↓SD.ev_gTup, ↓SD.ev_gIx, ↓SD.ev_iE, ↓SD.ev_iRange1, ↓SD.ev_iRange2, ↓SD.ev_iZip, ↓SD.ev_comp, ↓SD.ev_tupC, ↓SD.ev_allC, ↓SD.ev_anyC, ↓SD.ev_cComp, ↓SD.eList, ↓SD.gSeq, ↓SD.look_zero, ↓SD.look_succ, ↓SD.isa_non, ↓SD.isa_bl, ↓SD.isa_int, ↓SD.isa_str, ↓SD.isa_tup, ↓SD.isa_lref, ↓SD.ite_tt, ↓SD.ite_ff, SD.add_1, SD.add_2, SD.add_3, SD.add_4, SD.sub_1, SD.sub_2, SD.mul_1, SD.mul_2, SD.fdiv_1, SD.mod_1, SD.pow_1, SD.neg_1, SD.tr_non, SD.tr_bl, SD.tr_int, SD.tr_str, SD.tr_tup, SD.tr_lref, SD.lt_1, SD.le_1, SD.is_1, SD.is_2, SD.is_3, SD.is_4, SD.is_5, SD.is_6, SD.is_7, SD.cmp_eq, SD.cmp_ne, SD.cmp_lt, SD.cmp_le, SD.cmp_gt, SD.cmp_ge, SD.cmp_is, SD.cmp_isnot, SD.cmp_in, SD.cmp_notin, SD.eqk_int, SD.eqk_bl, SD.ix_tup, SD.ix_lref, SD.len_tup, SD.len_lref, SD.len_str, SD.abs_int, SD.int_int, SD.int_bl, SD.tuple_tup, SD.tuple_lref, SD.list_tup, SD.list_lref, SD.witer_tup, SD.witer_lref, SD.wzip_tup, SD.wipe_nil, SD.wipe_cons, SD.tru_nil, SD.tru_bl, SD.dE, SD.pairs, SD.allD, SD.anyD, SD.atI_0, SD.atI_1, SD.atI_2, SD.atI_3, SD.isa_NoneType_int, SD.isa_NoneType_bool, SD.isa_NoneType_str, SD.isa_NoneType_tuple, SD.isa_NoneType_list, SD.isa_bool_int, SD.isa_bool_bool, SD.isa_bool_str, SD.isa_bool_tuple, SD.isa_bool_list, SD.isa_int_int, SD.isa_int_bool, SD.isa_int_str, SD.isa_int_tuple, SD.isa_int_list, SD.isa_str_int, SD.isa_str_bool, SD.isa_str_str, SD.isa_str_tuple, SD.isa_str_list, SD.isa_tuple_int, SD.isa_tuple_bool, SD.isa_tuple_str, SD.isa_tuple_tuple, SD.isa_tuple_list, SD.isa_list_int, SD.isa_list_bool, SD.isa_list_str, SD.isa_list_tuple, SD.isa_list_list, List.length_cons, List.length_nil, List.map_cons, List.map_nil, List.set_cons_zero, List.set_cons_succ, List.replicate_succ, List.replicate_zero, List.cons_append, List.nil_append, List.zipWith_cons_cons, List.zipWith_nil_left, Nat.add_sub_cancel, Nat.reduceAdd, Nat.reduceSub, Nat.zero_add, Nat.sub_self, and_true, true_and, reduceCtorEq, if_true, if_false, ite_true, ite_false, Bool.false_eq_true, Bool.not_true, Bool.not_false, decide_eq_true_eq, h4])
  refine for_inv (fun j env S' => S' = S ∧ ∃ x, env = [some (.tup (vs.map wy)), some (wy (sumW (vs.take j))), x]) (j := 0) (fun i d env S' K hd hi hk => ?_) ⟨rfl, _, rfl⟩ (fun env S' hi => ?_)
  · obtain ⟨rfl, x, rfl⟩ := hi
    refine ⟨trivial, ?_⟩
    rw [List.getElem?_map] at hd
    obtain ⟨v, hv, rfl⟩ := Option.map_eq_some_iff.mp hd
    have hvb := hb v (List.mem_of_getElem? hv)
    have hil : i < vs.length := (List.getElem?_eq_some_iff.mp hv).1
    have hs : BW 3900 (sumW (vs.take i)) := BW_of (BW_sum hb i (Nat.le_of_lt hil)) (by omega)
    rw [Nat.zero_add] at hk ⊢
    ((try simp only [SD.startD, List.length_cons, List.length_nil, List.map_cons, List.map_nil, List.replicate_succ, List.replicate_zero, List.cons_append, List.nil_append, Nat.reduceAdd, Nat.reduceSub, Nat.zero_add]); simp only [↓SD.ev_nil, ↓SD.ev_seq, ↓SD.ev_next, ↓SD.ev_break, ↓SD.ev_cont, ↓SD.ev_expr, ↓SD.ev_ret, ↓SD.ev_retN, ↓SD.ev_asg, ↓SD.ev_aug, ↓SD.ev_if, ↓SD.ev_for, ↓SD.ev_raise, ↓SD.ev_try, ↓SD.ev_var, ↓SD.ev_c, ↓SD.ev_glob, ↓SD.ev_tup, ↓SD.ev_lst, ↓SD.ev_bin, ↓SD.ev_un, ↓SD.ev_b1, ↓SD.ev_tE, ↓SD.ev_tNot, ↓SD.ev_tAnd, ↓SD.ev_tOr, ↓SD.ev_tYes, ↓SD.ev_not, ↓SD.ev_and, ↓SD.ev_or, ↓SD.ev_ifE, ↓SD.ev_cmp, ↓SD.ev_chain, ↓SD.ev_ix, ↓SD.ev_slice, ↓SD.ev_part1, ↓SD.ev_part0, ↓SD.ev_call, ↓SD.ev_callV, ↓SD.ev_app, ↓SD.ev_gVar, ↓SD.ev_gTup, ↓SD.ev_gIx, ↓SD.ev_iE, ↓SD.ev_iRange1, ↓SD.ev_iRange2, ↓SD.ev_iZip, ↓SD.ev_comp, ↓SD.ev_tupC, ↓SD.ev_allC, ↓SD.ev_anyC, ↓SD.ev_cComp, ↓SD.eList, ↓SD.gSeq, ↓SD.look_zero, ↓SD.look_succ, ↓SD.isa_non, ↓SD.isa_bl, ↓SD.isa_int, ↓SD.isa_str, ↓SD.isa_tup, ↓SD.isa_lref, ↓SD.ite_tt, ↓SD.ite_ff, SD.add_1, SD.add_2, SD.add_3, SD.add_4, SD.sub_1, SD.sub_2, SD.mul_1, SD.mul_2, SD.fdiv_1, SD.mod_1, SD.pow_1, SD.neg_1, SD.tr_non, SD.tr_bl, SD.tr_int, SD.tr_str, SD.tr_tup, SD.tr_lref, SD.lt_1, SD.le_1, SD.is_1, SD.is_2, SD.is_3, SD.is_4, SD.is_5, SD.is_6, SD.is_7, SD.cmp_eq, SD.cmp_ne, SD.cmp_lt, SD.cmp_le, SD.cmp_gt, SD.cmp_ge, SD.cmp_is, SD.cmp_isnot, SD.cmp_in, SD.cmp_notin, SD.eqk_int, SD.eqk_bl, SD.ix_tup, SD.ix_lref, SD.len_tup, SD.len_lref, SD.len_str, SD.abs_int, SD.int_int, SD.int_bl, SD.tuple_tup, SD.tuple_lref, SD.list_tup, SD.list_lref, SD.witer_tup, SD.witer_lref, SD.wzip_tup, SD.wipe_nil, SD.wipe_cons, SD.tru_nil, SD.tru_bl, SD.dE, SD.pairs, SD.allD, SD.anyD, SD.atI_0, SD.atI_1, SD.atI_2, SD.atI_3, SD.isa_NoneType_int, SD.isa_NoneType_bool, SD.isa_NoneType_str, SD.isa_NoneType_tuple, SD.isa_NoneType_list, SD.isa_bool_int, SD.isa_bool_bool, SD.isa_bool_str, SD.isa_bool_tuple, SD.isa_bool_list, SD.isa_int_int, SD.isa_int_bool, SD.isa_int_str, SD.isa_int_tuple, SD.isa_int_list, SD.isa_str_int, SD.isa_str_bool, SD.isa_str_str, SD.isa_str_tuple, SD.isa_str_list, SD.isa_tuple_int, SD.isa_tuple_bool, SD.isa_tuple_str, SD.isa_tuple_tuple, SD.isa_tuple_list, SD.isa_list_int, SD.isa_list_bool, SD.isa_list_str, SD.isa_list_tuple, SD.isa_list_list, List.length_cons, List.length_nil, List.map_cons, List.map_nil, List.set_cons_zero, List.set_cons_succ, List.replicate_succ, List.replicate_zero, List.cons_append, List.nil_append, List.zipWith_cons_cons, List.zipWith_nil_left, Nat.add_sub_cancel, Nat.reduceAdd, Nat.reduceSub, Nat.zero_add, Nat.sub_self, and_true, true_and, reduceCtorEq, if_true, if_false, ite_true, ite_false, Bool.false_eq_true, Bool.not_true, Bool.not_false, decide_eq_true_eq, h1, sp_sum_of, spW2_wy, w_n2])
    walk_at "sides"
    exact hk _ _ ⟨rfl, _, by rw [sumW_take hv]⟩
  · obtain ⟨rfl, x, rfl⟩ := hi
    refine ⟨trivial, ?_⟩
    have e : vs.take (0 + (vs.map wy).length) = vs := by rw [List.length_map, Nat.zero_add, List.take_length]
    rw [e]
    have hs : BW 3900 (sumW vs) := by
      have := BW_sum hb vs.length (Nat.le_refl _)
      rw [List.take_length] at this
      exact BW_of this (by omega)
    have h5 := B_one hn hm
    ((try simp only [SD.startD, List.length_cons, List.length_nil, List.map_cons, List.map_nil, List.replicate_succ, List.replicate_zero, List.cons_append, List.nil_append, Nat.reduceAdd, Nat.reduceSub, Nat.zero_add]); simp only [↓SD.ev_nil, ↓SD.ev_seq, ↓SD.ev_next, ↓SD.ev_break, ↓SD.ev_cont, ↓SD.ev_expr, ↓SD.ev_ret, ↓SD.ev_retN, ↓SD.ev_asg, ↓SD.ev_aug, ↓SD.ev_if, ↓SD.ev_for, ↓SD.ev_raise, ↓SD.ev_try, ↓SD.ev_var, ↓SD.ev_c, ↓SD.ev_glob, ↓SD.ev_tup, ↓SD.ev_lst, ↓SD.ev_bin, ↓SD.ev_un, ↓SD.ev_b1, ↓SD.ev_tE, ↓SD.ev_tNot, ↓SD.ev_tAnd, ↓SD.ev_tOr, ↓SD.ev_tYes, ↓SD.ev_not, ↓SD.ev_and, ↓SD.ev_or, ↓SD.ev_ifE, ↓SD.ev_cmp, ↓SD.ev_chain, ↓SD.ev_ix, ↓SD.ev_slice, ↓SD.ev_part1, ↓SD.ev_part0, ↓SD.ev_call, ↓SD.ev_callV, ↓SD.ev_app, ↓SD.ev_gVar, ↓SD.ev_gTup, ↓SD.ev_gIx, ↓SD.ev_iE, ↓SD.ev_iRange1, ↓SD.ev_iRange2, ↓SD.ev_iZip, ↓SD.ev_comp, ↓SD.ev_tupC, ↓SD.ev_allC, ↓SD.ev_anyC, ↓SD.ev_cComp, ↓SD.eList, ↓SD.gSeq, ↓SD.look_zero, ↓SD.look_succ, ↓SD.isa_non, ↓SD.isa_bl, ↓SD.isa_int, ↓SD.isa_str, ↓SD.isa_tup, ↓SD.isa_lref, ↓SD.ite_tt, ↓SD.ite_ff, SD.add_1, SD.add_2, SD.add_3, SD.add_4, SD.sub_1, SD.sub_2, SD.mul_1, SD.mul_2, SD.fdiv_1, SD.mod_1, SD.pow_1, SD.neg_1, SD.tr_non, SD.tr_bl, SD.tr_int, SD.tr_str, SD.tr_tup, SD.tr_lref, SD.lt_1, SD.le_1, SD.is_1, SD.is_2, SD.is_3, SD.is_4, SD.is_5, SD.is_6, SD.is_7, SD.cmp_eq, SD.cmp_ne, SD.cmp_lt, SD.cmp_le, SD.cmp_gt, SD.cmp_ge, SD.cmp_is, SD.cmp_isnot, SD.cmp_in, SD.cmp_notin, SD.eqk_int, SD.eqk_bl, SD.ix_tup, SD.ix_lref, SD.len_tup, SD.len_lref, SD.len_str, SD.abs_int, SD.int_int, SD.int_bl, SD.tuple_tup, SD.tuple_lref, SD.list_tup, SD.list_lref, SD.witer_tup, SD.witer_lref, SD.wzip_tup, SD.wipe_nil, SD.wipe_cons, SD.tru_nil, SD.tru_bl, SD.dE, SD.pairs, SD.allD, SD.anyD, SD.atI_0, SD.atI_1, SD.atI_2, SD.atI_3, SD.isa_NoneType_int, SD.isa_NoneType_bool, SD.isa_NoneType_str, SD.isa_NoneType_tuple, SD.isa_NoneType_list, SD.isa_bool_int, SD.isa_bool_bool, SD.isa_bool_str, SD.isa_bool_tuple, SD.isa_bool_list, SD.isa_int_int, SD.isa_int_bool, SD.isa_int_str, SD.isa_int_tuple, SD.isa_int_list, SD.isa_str_int, SD.isa_str_bool, SD.isa_str_str, SD.isa_str_tuple, SD.isa_str_list, SD.isa_tuple_int, SD.isa_tuple_bool, SD.isa_tuple_str, SD.isa_tuple_tuple, SD.isa_tuple_list, SD.isa_list_int, SD.isa_list_bool, SD.isa_list_str, SD.isa_list_tuple, SD.isa_list_list, List.length_cons, List.length_nil, List.map_cons, List.map_nil, List.set_cons_zero, List.set_cons_succ, List.replicate_succ, List.replicate_zero, List.cons_append, List.nil_append, List.zipWith_cons_cons, List.zipWith_nil_left, Nat.add_sub_cancel, Nat.reduceAdd, Nat.reduceSub, Nat.zero_add, Nat.sub_self, and_true, true_and, reduceCtorEq, if_true, if_false, ite_true, ite_false, Bool.false_eq_true, Bool.not_true, Bool.not_false, decide_eq_true_eq, h2, h3, sp_made, List.length_map])
    have h6 : ((vs.length : Nat) : Int).natAbs < 2 ^ 8000 := Nat.lt_of_le_of_lt (show ((vs.length : Nat) : Int).natAbs ≤ 40 by omega) (Nat.lt_of_lt_of_le (show 40 < 2 ^ 6 by decide) (Nat.pow_le_pow_right (by decide) (by decide)))
    refine ⟨rfl, ⟨by omega, h6⟩, ?_⟩
    ((try simp only [SD.startD, List.length_cons, List.length_nil, List.map_cons, List.map_nil, List.replicate_succ, List.replicate_zero, List.cons_append, List.nil_append, Nat.reduceAdd, Nat.reduceSub, Nat.zero_add]); simp only [↓SD.ev_nil, ↓SD.ev_seq, ↓SD.ev_next, ↓SD.ev_break, ↓SD.ev_cont, ↓SD.ev_expr, ↓SD.ev_ret, ↓SD.ev_retN, ↓SD.ev_asg, ↓SD.ev_aug, ↓SD.ev_if, ↓SD.ev_for, ↓SD.ev_raise, ↓SD.ev_try, ↓SD.ev_var, ↓SD.ev_c, ↓SD.ev_glob, ↓SD.ev_tup, ↓SD.ev_lst, ↓SD.ev_bin, ↓SD.ev_un, ↓SD.ev_b1, ↓SD.ev_tE, ↓SD.ev_tNot, ↓SD.ev_tAnd, ↓SD.ev_tOr, ↓SD.ev_tYes, ↓SD.ev_not, ↓SD.ev_and, ↓SD.ev_or, ↓SD.ev_ifE, ↓SD.ev_cmp, ↓SD.ev_chain, ↓SD.ev_ix, ↓SD.ev_slice, ↓SD.ev_part1, ↓SD.ev_part0, ↓SD.ev_call, ↓SD.ev_callV, ↓SD.ev_app, ↓SD.ev_gVar, ↓SD.ev_gTup, ↓SD.ev_gIx, ↓SD.ev_iE, ↓SD.ev_iRange1, ↓SD.ev_iRange2, ↓SD.ev_iZip, ↓SD.ev_comp, ↓SD.ev_tupC, ↓SD.ev_allC, ↓SD.ev_anyC, ↓SD.ev_cComp, ↓SD.eList, ↓SD.gSeq, ↓SD.look_zero, ↓SD.look_succ, ↓SD.isa_non, ↓SD.isa_bl, ↓SD.isa_int, ↓SD.isa_str, ↓SD.isa_tup, ↓SD.isa_lref, ↓SD.ite_tt, ↓SD.ite_ff, SD.add_1, SD.add_2, SD.add_3, SD.add_4, SD.sub_1, SD.sub_2, SD.mul_1, SD.mul_2, SD.fdiv_1, SD.mod_1, SD.pow_1, SD.neg_1, SD.tr_non, SD.tr_bl, SD.tr_int, SD.tr_str, SD.tr_tup, SD.tr_lref, SD.lt_1, SD.le_1, SD.is_1, SD.is_2, SD.is_3, SD.is_4, SD.is_5, SD.is_6, SD.is_7, SD.cmp_eq, SD.cmp_ne, SD.cmp_lt, SD.cmp_le, SD.cmp_gt, SD.cmp_ge, SD.cmp_is, SD.cmp_isnot, SD.cmp_in, SD.cmp_notin, SD.eqk_int, SD.eqk_bl, SD.ix_tup, SD.ix_lref, SD.len_tup, SD.len_lref, SD.len_str, SD.abs_int, SD.int_int, SD.int_bl, SD.tuple_tup, SD.tuple_lref, SD.list_tup, SD.list_lref, SD.witer_tup, SD.witer_lref, SD.wzip_tup, SD.wipe_nil, SD.wipe_cons, SD.tru_nil, SD.tru_bl, SD.dE, SD.pairs, SD.allD, SD.anyD, SD.atI_0, SD.atI_1, SD.atI_2, SD.atI_3, SD.isa_NoneType_int, SD.isa_NoneType_bool, SD.isa_NoneType_str, SD.isa_NoneType_tuple, SD.isa_NoneType_list, SD.isa_bool_int, SD.isa_bool_bool, SD.isa_bool_str, SD.isa_bool_tuple, SD.isa_bool_list, SD.isa_int_int, SD.isa_int_bool, SD.isa_int_str, SD.isa_int_tuple, SD.isa_int_list, SD.isa_str_int, SD.isa_str_bool, SD.isa_str_str, SD.isa_str_tuple, SD.isa_str_list, SD.isa_tuple_int, SD.isa_tuple_bool, SD.isa_tuple_str, SD.isa_tuple_tuple, SD.isa_tuple_list, SD.isa_list_int, SD.isa_list_bool, SD.isa_list_str, SD.isa_list_tuple, SD.isa_list_list, List.length_cons, List.length_nil, List.map_cons, List.map_nil, List.set_cons_zero, List.set_cons_succ, List.replicate_succ, List.replicate_zero, List.cons_append, List.nil_append, List.zipWith_cons_cons, List.zipWith_nil_left, Nat.add_sub_cancel, Nat.reduceAdd, Nat.reduceSub, Nat.zero_add, Nat.sub_self, and_true, true_and, reduceCtorEq, if_true, if_false, ite_true, ite_false, Bool.false_eq_true, Bool.not_true, Bool.not_false, decide_eq_true_eq, sp_scaled, w_nQ, spWQ_wy])
    walk_at "sides"
    exact trQ_self rfl h
/-! rows that may be asked for -/
def oksW : List D → Bool
  | [] => true
  | d :: ds => okW d && oksW ds
def okR : D → Bool
  | .tup xs => oksW xs && decide (xs.length ≤ 1000)
  | d => (tyD d).isSome
def isRows (a b : Int) : D → Bool
  | .tup xs => decide (a ≤ xs.length) && (decide ((xs.length : Int) ≤ b) && xs.all isWay)
  | _ => false
theorem truths_bl {f : D → Bool} : ∀ {l : List D}, truths (l.map fun d => .bl (f d)) = some (l.map f)
  | [] => rfl
  | d :: l => by
    rw [List.map_cons, List.map_cons, tru_bl, truths_bl]
theorem all_id {l : List D} {f : D → Bool} : (l.map f).all id = l.all f := by
  rw [List.all_map]
  rfl
theorem oksW_mem : ∀ {l : List D}, oksW l = true → ∀ d ∈ l, okW d = true
  | [], _, d, m => by cases m
  | x :: l, h, d, m => by
    have h' : (okW x && oksW l) = true := h
    rw [Bool.and_eq_true] at h'
    rcases List.mem_cons.mp m with rfl | m
    · exact h'.1
    · exact oksW_mem h'.2 d m
def sp_demand_rows : FnD := ⟨4, fun ds S E Q => match ds with
  | [d, .int a, .int b, .str r] => okR d = true ∧ if isRows a b d = true then Q .non S else E (argErr r) S
  | _ => False⟩
theorem h_demand_rows (T : Tab) (h1 : T.sp "is_way" = some sp_is_way) (h2 : T.exc "ArgumentError" = some [("reason" : Str)]) : Meets sp_demand_rows N_demand_rows (t_demand_rows T) := by
  intro ds S E Q hl h
  unfold sp_demand_rows at h
  unfold t_demand_rows N_demand_rows
  dsimp only at h
  split at h
  · rename_i d a b r
    obtain ⟨h3, h4⟩ := h
    cases d
    case tup xs =>
      have h5 : oksW xs = true ∧ xs.length ≤ 1000 := by
        have := h3
        simp only [okR, Bool.and_eq_true, decide_eq_true_eq] at this
        exact this
      have e : isRows a b (.tup xs) = (decide (a ≤ xs.length) && (decide ((xs.length : Int) ≤ b) && xs.all isWay)) := rfl
      rw [e] at h4
      ((try simp only [SD.startD, List.length_cons, List.length_nil, List.map_cons, List.map_nil, List.replicate_succ, List.replicate_zero, List.cons_append, List.nil_append, Nat.reduceAdd, Nat.reduceSub, Nat.zero_add]); simp only [↓SD.ev_nil, ↓SD.ev_seq, ↓SD.ev_next, ↓SD.ev_break, ↓SD.ev_cont, ↓SD.ev_expr, ↓SD.ev_ret, ↓SD.ev_retN, ↓SD.ev_asg, ↓SD.ev_aug, ↓SD.ev_if, ↓SD.ev_for, ↓SD.ev_raise, ↓SD.ev_try, ↓SD.ev_var, ↓SD.ev_c, ↓SD.ev_glob, ↓SD.ev_tup, ↓SD.ev_lst, ↓SD.ev_bin, ↓SD.ev_un, ↓SD.ev_b1, ↓SD.ev_tE, ↓SD.ev_tNot, ↓SD.ev_tAnd, ↓SD.ev_tOr, ↓SD.ev_tYes, ↓SD.ev_not, ↓SD.ev_and, ↓SD.ev_or, ↓SD.ev_ifE, ↓SD.ev_cmp, ↓SD.ev_chain, ↓SD.ev_ix, ↓SD.ev_slice, ↓SD.ev_part1, ↓SD.ev_part0, ↓SD.ev_call, ↓SD.ev_callV, ↓SD.ev_app, ↓SD.ev_gVar, ↓SD.ev_gTup, ↓SD.ev_gIx, ↓SD.ev_iE, ↓SD.ev_iRange1, ↓SD.ev_iRange2, ↓SD.ev_iZip, ↓SD.ev_comp, ↓SD.ev_tupC, ↓SD.ev_allC, ↓SD.ev_anyC, ↓SD.ev_cComp, ↓SD.eList, ↓SD.gSeq, ↓SD.look_zero, ↓SD.look_succ, ↓SD.isa_non, ↓SD.isa_bl, ↓SD.isa_int, ↓SD.isa_str, ↓SD.isa_tup, ↓SD.isa_lref, ↓SD.ite_tt, ↓SD.ite_ff, SD.add_1, SD.add_2, SD.add_3, SD.add_4, SD.sub_1, SD.sub_2, SD.mul_1, SD.mul_2, SD.fdiv_1, SD.mod_1, SD.pow_1, SD.neg_1, SD.tr_non, SD.tr_bl, SD.tr_int, SD.tr_str, SD.tr_tup, SD.tr_lref, SD.lt_1, SD.le_1, SD.is_1, SD.is_2, SD.is_3, SD.is_4, SD.is_5, SD.is_6, SD.is_7, SD.cmp_eq, SD.cmp_ne, SD.cmp_lt, SD.cmp_le, SD.cmp_gt, SD.cmp_ge, SD.cmp_is, SD.cmp_isnot, SD.cmp_in, SD.cmp_notin, SD.eqk_int, SD.eqk_bl, SD.ix_tup, SD.ix_lref, SD.len_tup, SD.len_lref, SD.len_str, SD.abs_int, SD.int_int, SD.int_bl, SD.tuple_tup, SD.tuple_lref, SD.list_tup, SD.list_lref, SD.witer_tup, SD.witer_lref, SD.wzip_tup, SD.wipe_nil, SD.wipe_cons, SD.tru_nil, SD.tru_bl, SD.dE, SD.pairs, SD.allD, SD.anyD, SD.atI_0, SD.atI_1, SD.atI_2, SD.atI_3, SD.isa_NoneType_int, SD.isa_NoneType_bool, SD.isa_NoneType_str, SD.isa_NoneType_tuple, SD.isa_NoneType_list, SD.isa_bool_int, SD.isa_bool_bool, SD.isa_bool_str, SD.isa_bool_tuple, SD.isa_bool_list, SD.isa_int_int, SD.isa_int_bool, SD.isa_int_str, SD.isa_int_tuple, SD.isa_int_list, SD.isa_str_int, SD.isa_str_bool, SD.isa_str_str, SD.isa_str_tuple, SD.isa_str_list, SD.isa_tuple_int, SD.isa_tuple_bool, SD.isa_tuple_str, SD.isa_tuple_tuple, SD.isa_tuple_list, SD.isa_list_int, SD.isa_list_bool, SD.isa_list_str, SD.isa_list_tuple, SD.isa_list_list, List.length_cons, List.length_nil, List.map_cons, List.map_nil, List.set_cons_zero, List.set_cons_succ, List.replicate_succ, List.replicate_zero, List.cons_append, List.nil_append, List.zipWith_cons_cons, List.zipWith_nil_left, Nat.add_sub_cancel, Nat.reduceAdd, Nat.reduceSub, Nat.zero_add, Nat.sub_self, and_true, true_and, reduceCtorEq, if_true, if_false, ite_true, ite_false, Bool.false_eq_true, Bool.not_true, Bool.not_false, decide_eq_true_eq])
      by_cases c1 : a ≤ (xs.length : Int)
      · by_cases c2 : (xs.length : Int) ≤ b
        · rw [decide_eq_true c1, decide_eq_true c2, Bool.true_and, Bool.true_and] at h4
          ((try simp only [SD.startD, List.length_cons, List.length_nil, List.map_cons, List.map_nil, List.replicate_succ, List.replicate_zero, List.cons_append, List.nil_append, Nat.reduceAdd, Nat.reduceSub, Nat.zero_add]); simp only [↓SD.ev_nil, ↓SD.ev_seq, ↓SD.ev_next, ↓SD.ev_break, ↓SD.ev_cont, ↓SD.ev_expr, ↓SD.ev_ret, ↓SD.ev_retN, ↓SD.ev_asg, ↓SD.ev_aug, ↓SD.ev_if, ↓SD.ev_for, ↓SD.ev_raise, ↓SD.ev_try, ↓SD.ev_var, ↓SD.ev_c, ↓SD.ev_glob, ↓SD.ev_tup, ↓SD.ev_lst, ↓SD.ev_bin, ↓SD.ev_un, ↓SD.ev_b1, ↓SD.ev_tE, ↓SD.ev_tNot, ↓SD.ev_tAnd, ↓SD.ev_tOr, ↓SD.ev_tYes, ↓SD.ev_not, ↓SD.ev_and, ↓SD.ev_or, ↓SD.ev_ifE, ↓SD.ev_cmp, ↓SD.ev_chain, ↓SD.ev_ix, ↓SD.ev_slice, ↓SD.ev_part1, ↓SD.ev_part0, ↓SD.ev_call, ↓SD.ev_callV, ↓SD.ev_app, ↓SD.ev_gVar, ↓SD.ev_gTup, ↓SD.ev_gIx, ↓SD.ev_iE, ↓SD.ev_iRange1, ↓SD.ev_iRange2, ↓SD.ev_iZip, ↓SD.ev_comp, ↓SD.ev_tupC, ↓SD.ev_allC, ↓SD.ev_anyC, ↓SD.ev_cComp, ↓SD.eList, ↓SD.gSeq, ↓SD.look_zero, ↓SD.look_succ, ↓SD.isa_non, ↓SD.isa_bl, ↓SD.isa_int, ↓SD.isa_str, ↓SD.isa_tup, ↓SD.isa_lref, ↓SD.ite_tt, ↓SD.ite_ff, SD.add_1, SD.add_2, SD.add_3, SD.add_4, SD.sub_1, SD.sub_2, SD.mul_1, SD.mul_2, SD.fdiv_1, SD.mod_1, SD.pow_1, SD.neg_1, SD.tr_non, SD.tr_bl, SD.tr_int, SD.tr_str, SD.tr_tup, SD.tr_lref, SD.lt_1, SD.le_1, SD.is_1, SD.is_2, SD.is_3, SD.is_4, SD.is_5, SD.is_6, SD.is_7, SD.cmp_eq, SD.cmp_ne, SD.cmp_lt, SD.cmp_le, SD.cmp_gt, SD.cmp_ge, SD.cmp_is, SD.cmp_isnot, SD.cmp_in, SD.cmp_notin, SD.eqk_int, SD.eqk_bl, SD.ix_tup, SD.ix_lref, SD.len_tup, SD.len_lref, SD.len_str, SD.abs_int, SD.int_int, SD.int_bl, SD.tuple_tup, SD.tuple_lref, SD.list_tup, SD.list_lref, SD.witer_tup, SD.witer_lref, SD.wzip_tup, SD.wipe_nil, SD.wipe_cons, SD.tru_nil, SD.tru_bl, SD.dE, SD.pairs, SD.allD, SD.anyD, SD.atI_0, SD.atI_1, SD.atI_2, SD.atI_3, SD.isa_NoneType_int, SD.isa_NoneType_bool, SD.isa_NoneType_str, SD.isa_NoneType_tuple, SD.isa_NoneType_list, SD.isa_bool_int, SD.isa_bool_bool, SD.isa_bool_str, SD.isa_bool_tuple, SD.isa_bool_list, SD.isa_int_int, SD.isa_int_bool, SD.isa_int_str, SD.isa_int_tuple, SD.isa_int_list, SD.isa_str_int, SD.isa_str_bool, SD.isa_str_str, SD.isa_str_tuple, SD.isa_str_list, SD.isa_tuple_int, SD.isa_tuple_bool, SD.isa_tuple_str, SD.isa_tuple_tuple, SD.isa_tuple_list, SD.isa_list_int, SD.isa_list_bool, SD.isa_list_str, SD.isa_list_tuple, SD.isa_list_list, List.length_cons, List.length_nil, List.map_cons, List.map_nil, List.set_cons_zero, List.set_cons_succ, List.replicate_succ, List.replicate_zero, List.cons_append, List.nil_append, List.zipWith_cons_cons, List.zipWith_nil_left, Nat.add_sub_cancel, Nat.reduceAdd, Nat.reduceSub, Nat.zero_add, Nat.sub_self, and_true, true_and, reduceCtorEq, if_true, if_false, ite_true, ite_false, Bool.false_eq_true, Bool.not_true, Bool.not_false, decide_eq_true_eq, c1, c2, decide_true])
          refine ⟨line1000 h5.2, comp_map (f := fun d => .bl (isWay d)) trivial (fun d m Kt k => ?_) ?_⟩
          · ((try simp only [SD.startD, List.length_cons, List.length_nil, List.map_cons, List.map_nil, List.replicate_succ, List.replicate_zero, List.cons_append, List.nil_append, Nat.reduceAdd, Nat.reduceSub, Nat.zero_add]); simp only [↓SD.ev_nil, ↓SD.ev_seq, ↓SD.ev_next, ↓SD.ev_break, ↓SD.ev_cont, ↓SD.ev_expr, ↓SD.ev_ret, ↓SD.ev_retN, ↓SD.ev_asg, ↓SD.ev_aug, ↓SD.ev_if, ↓SD.ev_for, ↓SD.ev_raise, ↓SD.ev_try, ↓SD.ev_var, ↓SD.ev_c, ↓SD.ev_glob, ↓SD.ev_tup, ↓SD.ev_lst, ↓SD.ev_bin, ↓SD.ev_un, ↓SD.ev_b1, ↓SD.ev_tE, ↓SD.ev_tNot, ↓SD.ev_tAnd, ↓SD.ev_tOr, ↓SD.ev_tYes, ↓SD.ev_not, ↓SD.ev_and, ↓SD.ev_or, ↓SD.ev_ifE, ↓SD.ev_cmp, ↓SD.ev_chain, ↓SD.ev_ix, ↓SD.ev_slice, ↓SD.ev_part1, ↓SD.ev_part0, ↓SD.ev_call, ↓SD.ev_callV, ↓SD.ev_app, ↓SD.ev_gVar, ↓SD.ev_gTup, ↓SD.ev_gIx, ↓SD.ev_iE, ↓SD.ev_iRange1, ↓SD.ev_iRange2, ↓SD.ev_iZip, ↓SD.ev_comp, ↓SD.ev_tupC, ↓SD.ev_allC, ↓SD.ev_anyC, ↓SD.ev_cComp, ↓SD.eList, ↓SD.gSeq, ↓SD.look_zero, ↓SD.look_succ, ↓SD.isa_non, ↓SD.isa_bl, ↓SD.isa_int, ↓SD.isa_str, ↓SD.isa_tup, ↓SD.isa_lref, ↓SD.ite_tt, ↓SD.ite_ff, SD.add_1, SD.add_2, SD.add_3, SD.add_4, SD.sub_1, SD.sub_2, SD.mul_1, SD.mul_2, SD.fdiv_1, SD.mod_1, SD.pow_1, SD.neg_1, SD.tr_non, SD.tr_bl, SD.tr_int, SD.tr_str, SD.tr_tup, SD.tr_lref, SD.lt_1, SD.le_1, SD.is_1, SD.is_2, SD.is_3, SD.is_4, SD.is_5, SD.is_6, SD.is_7, SD.cmp_eq, SD.cmp_ne, SD.cmp_lt, SD.cmp_le, SD.cmp_gt, SD.cmp_ge, SD.cmp_is, SD.cmp_isnot, SD.cmp_in, SD.cmp_notin, SD.eqk_int, SD.eqk_bl, SD.ix_tup, SD.ix_lref, SD.len_tup, SD.len_lref, SD.len_str, SD.abs_int, SD.int_int, SD.int_bl, SD.tuple_tup, SD.tuple_lref, SD.list_tup, SD.list_lref, SD.witer_tup, SD.witer_lref, SD.wzip_tup, SD.wipe_nil, SD.wipe_cons, SD.tru_nil, SD.tru_bl, SD.dE, SD.pairs, SD.allD, SD.anyD, SD.atI_0, SD.atI_1, SD.atI_2, SD.atI_3, SD.isa_NoneType_int, SD.isa_NoneType_bool, SD.isa_NoneType_str, SD.isa_NoneType_tuple, SD.isa_NoneType_list, SD.isa_bool_int, SD.isa_bool_bool, SD.isa_bool_str, SD.isa_bool_tuple, SD.isa_bool_list, SD.isa_int_int, SD.isa_int_bool, SD.isa_int_str, SD.isa_int_tuple, SD.isa_int_list, SD.isa_str_int, SD.isa_str_bool, SD.isa_str_str, SD.isa_str_tuple, SD.isa_str_list, SD.isa_tuple_int, SD.isa_tuple_bool, SD.isa_tuple_str, SD.isa_tuple_tuple, SD.isa_tuple_list, SD.isa_list_int, SD.isa_list_bool, SD.isa_list_str, SD.isa_list_tuple, SD.isa_list_list, List.length_cons, List.length_nil, List.map_cons, List.map_nil, List.set_cons_zero, List.set_cons_succ, List.replicate_succ, List.replicate_zero, List.cons_append, List.nil_append, List.zipWith_cons_cons, List.zipWith_nil_left, Nat.add_sub_cancel, Nat.reduceAdd, Nat.reduceSub, Nat.zero_add, Nat.sub_self, and_true, true_and, reduceCtorEq, if_true, if_false, ite_true, ite_false, Bool.false_eq_true, Bool.not_true, Bool.not_false, decide_eq_true_eq, h1, sp_is_way, oksW_mem h5.1 d m])
            exact k
          · rw [truths_bl]
            dsimp only
            rw [all_id]
            cases hc : xs.all isWay with
            | true =>
              rw [hc] at h4
              ((try simp only [SD.startD, List.length_cons, List.length_nil, List.map_cons, List.map_nil, List.replicate_succ, List.replicate_zero, List.cons_append, List.nil_append, Nat.reduceAdd, Nat.reduceSub, Nat.zero_add]); simp only [↓SD.ev_nil, ↓SD.ev_seq, ↓SD.ev_next, ↓SD.ev_break, ↓SD.ev_cont, ↓SD.ev_expr, ↓SD.ev_ret, ↓SD.ev_retN, ↓SD.ev_asg, ↓SD.ev_aug, ↓SD.ev_if, ↓SD.ev_for, ↓SD.ev_raise, ↓SD.ev_try, ↓SD.ev_var, ↓SD.ev_c, ↓SD.ev_glob, ↓SD.ev_tup, ↓SD.ev_lst, ↓SD.ev_bin, ↓SD.ev_un, ↓SD.ev_b1, ↓SD.ev_tE, ↓SD.ev_tNot, ↓SD.ev_tAnd, ↓SD.ev_tOr, ↓SD.ev_tYes, ↓SD.ev_not, ↓SD.ev_and, ↓SD.ev_or, ↓SD.ev_ifE, ↓SD.ev_cmp, ↓SD.ev_chain, ↓SD.ev_ix, ↓SD.ev_slice, ↓SD.ev_part1, ↓SD.ev_part0, ↓SD.ev_call, ↓SD.ev_callV, ↓SD.ev_app, ↓SD.ev_gVar, ↓SD.ev_gTup, ↓SD.ev_gIx, ↓SD.ev_iE, ↓SD.ev_iRange1, ↓SD.ev_iRange2, ↓SD.ev_iZip, ↓SD.ev_comp, ↓SD.ev_tupC, ↓SD.ev_allC, ↓SD.ev_anyC, ↓SD.ev_cComp, ↓SD.eList, ↓SD.gSeq, ↓SD.look_zero, ↓SD.look_succ, ↓SD.isa_non, ↓SD.isa_bl, ↓SD.isa_int, ↓SD.isa_str, ↓SD.isa_tup, ↓SD.isa_lref, ↓SD.ite_tt, ↓SD.ite_ff, SD.add_1, SD.add_2, SD.add_3, SD.add_4, SD.sub_1, SD.sub_2, SD.mul_1, SD.mul_2, SD.fdiv_1, SD.mod_1, SD.pow_1, SD.neg_1, SD.tr_non, SD.tr_bl, SD.tr_int, SD.tr_str, SD.tr_tup, SD.tr_lref, SD.lt_1, SD.le_1, SD.is_1, SD.is_2, SD.is_3, SD.is_4, SD.is_5, SD.is_6, SD.is_7, SD.cmp_eq, SD.cmp_ne, SD.cmp_lt, SD.cmp_le, SD.cmp_gt, SD.cmp_ge, SD.cmp_is, SD.cmp_isnot, SD.cmp_in, SD.cmp_notin, SD.eqk_int, SD.eqk_bl, SD.ix_tup, SD.ix_lref, SD.len_tup, SD.len_lref, SD.len_str, SD.abs_int, SD.int_int, SD.int_bl, SD.tuple_tup, SD.tuple_lref, SD.list_tup, SD.list_lref, SD.witer_tup, SD.witer_lref, SD.wzip_tup, SD.wipe_nil, SD.wipe_cons, SD.tru_nil, SD.tru_bl, SD.dE, SD.pairs, SD.allD, SD.anyD, SD.atI_0, SD.atI_1, SD.atI_2, SD.atI_3, SD.isa_NoneType_int, SD.isa_NoneType_bool, SD.isa_NoneType_str, SD.isa_NoneType_tuple, SD.isa_NoneType_list, SD.isa_bool_int, SD.isa_bool_bool, SD.isa_bool_str, SD.isa_bool_tuple, SD.isa_bool_list, SD.isa_int_int, SD.isa_int_bool, SD.isa_int_str, SD.isa_int_tuple, SD.isa_int_list, SD.isa_str_int, SD.isa_str_bool, SD.isa_str_str, SD.isa_str_tuple, SD.isa_str_list, SD.isa_tuple_int, SD.isa_tuple_bool, SD.isa_tuple_str, SD.isa_tuple_tuple, SD.isa_tuple_list, SD.isa_list_int, SD.isa_list_bool, SD.isa_list_str, SD.isa_list_tuple, SD.isa_list_list, List.length_cons, List.length_nil, List.map_cons, List.map_nil, List.set_cons_zero, List.set_cons_succ, List.replicate_succ, List.replicate_zero, List.cons_append, List.nil_append, List.zipWith_cons_cons, List.zipWith_nil_left, Nat.add_sub_cancel, Nat.reduceAdd, Nat.reduceSub, Nat.zero_add, Nat.sub_self, and_true, true_and, reduceCtorEq, if_true, if_false, ite_true, ite_false, Bool.false_eq_true, Bool.not_true, Bool.not_false, decide_eq_true_eq])
              exact trQ_self rfl h4
            | false =>
              rw [hc] at h4
              ((try simp only [SD.startD, List.length_cons, List.length_nil, List.map_cons, List.map_nil, List.replicate_succ, List.replicate_zero, List.cons_append, List.nil_append, Nat.reduceAdd, Nat.reduceSub, Nat.zero_add]); simp only [↓SD.ev_nil, ↓SD.ev_seq, ↓SD.ev_next, ↓SD.ev_break, ↓SD.ev_cont, ↓SD.ev_expr, ↓SD.ev_ret, ↓SD.ev_retN, ↓SD.ev_asg, ↓SD.ev_aug, ↓SD.ev_if, ↓SD.ev_for, ↓SD.ev_raise, ↓SD.ev_try, ↓SD.ev_var, ↓SD.ev_c, ↓SD.ev_glob, ↓SD.ev_tup, ↓SD.ev_lst, ↓SD.ev_bin, ↓SD.ev_un, ↓SD.ev_b1, ↓SD.ev_tE, ↓SD.ev_tNot, ↓SD.ev_tAnd, ↓SD.ev_tOr, ↓SD.ev_tYes, ↓SD.ev_not, ↓SD.ev_and, ↓SD.ev_or, ↓SD.ev_ifE, ↓SD.ev_cmp, ↓SD.ev_chain, ↓SD.ev_ix, ↓SD.ev_slice, ↓SD.ev_part1, ↓SD.ev_part0, ↓SD.ev_call, ↓SD.ev_callV, ↓SD.ev_app, ↓SD.ev_gVar, ↓SD.ev_gTup, ↓SD.ev_gIx, ↓SD.ev_iE, ↓SD.ev_iRange1, ↓SD.ev_iRange2, ↓SD.ev_iZip, ↓SD.ev_comp, ↓SD.ev_tupC, ↓SD.ev_allC, ↓SD.ev_anyC, ↓SD.ev_cComp, ↓SD.eList, ↓SD.gSeq, ↓SD.look_zero, ↓SD.look_succ, ↓SD.isa_non, ↓SD.isa_bl, ↓SD.isa_int, ↓SD.isa_str, ↓SD.isa_tup, ↓SD.isa_lref, ↓SD.ite_tt, ↓SD.ite_ff, SD.add_1, SD.add_2, SD.add_3, SD.add_4, SD.sub_1, SD.sub_2, SD.mul_1, SD.mul_2, SD.fdiv_1, SD.mod_1, SD.pow_1, SD.neg_1, SD.tr_non, SD.tr_bl, SD.tr_int, SD.tr_str, SD.tr_tup, SD.tr_lref, SD.lt_1, SD.le_1, SD.is_1, SD.is_2, SD.is_3, SD.is_4, SD.is_5, SD.is_6, SD.is_7, SD.cmp_eq, SD.cmp_ne, SD.cmp_lt, SD.cmp_le, SD.cmp_gt, SD.cmp_ge, SD.cmp_is, SD.cmp_isnot, SD.cmp_in, SD.cmp_notin, SD.eqk_int, SD.eqk_bl, SD.ix_tup, SD.ix_lref, SD.len_tup, SD.len_lref, SD.len_str, SD.abs_int, SD.int_int, SD.int_bl, SD.tuple_tup, SD.tuple_lref, SD.list_tup, SD.list_lref, SD.witer_tup, SD.witer_lref, SD.wzip_tup, SD.wipe_nil, SD.wipe_cons, SD.tru_nil, SD.tru_bl, SD.dE, SD.pairs, SD.allD, SD.anyD, SD.atI_0, SD.atI_1, SD.atI_2, SD.atI_3, SD.isa_NoneType_int, SD.isa_NoneType_bool, SD.isa_NoneType_str, SD.isa_NoneType_tuple, SD.isa_NoneType_list, SD.isa_bool_int, SD.isa_bool_bool, SD.isa_bool_str, SD.isa_bool_tuple, SD.isa_bool_list, SD.isa_int_int, SD.isa_int_bool, SD.isa_int_str, SD.isa_int_tuple, SD.isa_int_list, SD.isa_str_int, SD.isa_str_bool, SD.isa_str_str, SD.isa_str_tuple, SD.isa_str_list, SD.isa_tuple_int, SD.isa_tuple_bool, SD.isa_tuple_str, SD.isa_tuple_tuple, SD.isa_tuple_list, SD.isa_list_int, SD.isa_list_bool, SD.isa_list_str, SD.isa_list_tuple, SD.isa_list_list, List.length_cons, List.length_nil, List.map_cons, List.map_nil, List.set_cons_zero, List.set_cons_succ, List.replicate_succ, List.replicate_zero, List.cons_append, List.nil_append, List.zipWith_cons_cons, List.zipWith_nil_left, Nat.add_sub_cancel, Nat.reduceAdd, Nat.reduceSub, Nat.zero_add, Nat.sub_self, and_true, true_and, reduceCtorEq, if_true, if_false, ite_true, ite_false, Bool.false_eq_true, Bool.not_true, Bool.not_false, decide_eq_true_eq, h2])
              exact trE_self rfl h4
        · rw [decide_eq_false c2, Bool.false_and, Bool.and_false] at h4
          ((try simp only [SD.startD, List.length_cons, List.length_nil, List.map_cons, List.map_nil, List.replicate_succ, List.replicate_zero, List.cons_append, List.nil_append, Nat.reduceAdd, Nat.reduceSub, Nat.zero_add]); simp only [↓SD.ev_nil, ↓SD.ev_seq, ↓SD.ev_next, ↓SD.ev_break, ↓SD.ev_cont, ↓SD.ev_expr, ↓SD.ev_ret, ↓SD.ev_retN, ↓SD.ev_asg, ↓SD.ev_aug, ↓SD.ev_if, ↓SD.ev_for, ↓SD.ev_raise, ↓SD.ev_try, ↓SD.ev_var, ↓SD.ev_c, ↓SD.ev_glob, ↓SD.ev_tup, ↓SD.ev_lst, ↓SD.ev_bin, ↓SD.ev_un, ↓SD.ev_b1, ↓SD.ev_tE, ↓SD.ev_tNot, ↓SD.ev_tAnd, ↓SD.ev_tOr, ↓SD.ev_tYes, ↓SD.ev_not, ↓SD.ev_and, ↓SD.ev_or, ↓SD.ev_ifE, ↓SD.ev_cmp, ↓SD.ev_chain, ↓SD.ev_ix, ↓SD.ev_slice, ↓SD.ev_part1, ↓SD.ev_part0, ↓SD.ev_call, ↓SD.ev_callV, ↓SD.ev_app, ↓SD.ev_gVar, ↓SD.ev_gTup, ↓SD.ev_gIx, ↓SD.ev_iE, ↓SD.ev_iRange1, ↓SD.ev_iRange2, ↓SD.ev_iZip, ↓SD.ev_comp, ↓SD.ev_tupC, ↓SD.ev_allC, ↓SD.ev_anyC, ↓SD.ev_cComp, ↓SD.eList, ↓SD.gSeq, ↓SD.look_zero, ↓SD.look_succ, ↓SD.isa_non, ↓SD.isa_bl, ↓SD.isa_int, ↓SD.isa_str, ↓SD.isa_tup, ↓SD.isa_lref, ↓SD.ite_tt, ↓SD.ite_ff, SD.add_1, SD.add_2, SD.add_3, SD.add_4, SD.sub_1, SD.sub_2, SD.mul_1, SD.mul_2, SD.fdiv_1, SD.mod_1, SD.pow_1, SD.neg_1, SD.tr_non, SD.tr_bl, SD.tr_int, SD.tr_str, SD.tr_tup, SD.tr_lref, SD.lt_1, SD.le_1, SD.is_1, SD.is_2, SD.is_3, SD.is_4, SD.is_5, SD.is_6, SD.is_7, SD.cmp_eq, SD.cmp_ne, SD.cmp_lt, SD.cmp_le, SD.cmp_gt, SD.cmp_ge, SD.cmp_is, SD.cmp_isnot, SD.cmp_in, SD.cmp_notin, SD.eqk_int, SD.eqk_bl, SD.ix_tup, SD.ix_lref, SD.len_tup, SD.len_lref, SD.len_str, SD.abs_int, SD.int_int, SD.int_bl, SD.tuple_tup, SD.tuple_lref, SD.list_tup, SD.list_lref, SD.witer_tup, SD.witer_lref, SD.wzip_tup, SD.wipe_nil, SD.wipe_cons, SD.tru_nil, SD.tru_bl, SD.dE, SD.pairs, SD.allD, SD.anyD, SD.atI_0, SD.atI_1, SD.atI_2, SD.atI_3, SD.isa_NoneType_int, SD.isa_NoneType_bool, SD.isa_NoneType_str, SD.isa_NoneType_tuple, SD.isa_NoneType_list, SD.isa_bool_int, SD.isa_bool_bool, SD.isa_bool_str, SD.isa_bool_tuple, SD.isa_bool_list, SD.isa_int_int, SD.isa_int_bool, SD.isa_int_str, SD.isa_int_tuple, SD.isa_int_list, SD.isa_str_int, SD.isa_str_bool, SD.isa_str_str, SD.isa_str_tuple, SD.isa_str_list, SD.isa_tuple_int, SD.isa_tuple_bool, SD.isa_tuple_str, SD.isa_tuple_tuple, SD.isa_tuple_list, SD.isa_list_int, SD.isa_list_bool, SD.isa_list_str, SD.isa_list_tuple, SD.isa_list_list, List.length_cons, List.length_nil, List.map_cons, List.map_nil, List.set_cons_zero, List.set_cons_succ, List.replicate_succ, List.replicate_zero, List.cons_append, List.nil_append, List.zipWith_cons_cons, List.zipWith_nil_left, Nat.add_sub_cancel, Nat.reduceAdd, Nat.reduceSub, Nat.zero_add, Nat.sub_self, and_true, true_and, reduceCtorEq, if_true, if_false, ite_true, ite_false, Bool.false_eq_true, Bool.not_true, Bool.not_false, decide_eq_true_eq, c1, c2, decide_true, decide_false, h2])
          exact trE_self rfl h4
      · rw [decide_eq_false c1, Bool.false_and] at h4
        ((try simp only [SD.startD, List.length_cons, List.length_nil, List.map_cons, List.map_nil, List.replicate_succ, List.replicate_zero, List.cons_append, List.nil_append, Nat.reduceAdd, Nat.reduceSub, Nat.zero_add]); simp only [↓SD.ev_nil, ↓SD.ev_seq, ↓SD.ev_next, ↓SD.ev_break, ↓SD.ev_cont, ↓SD.ev_expr, ↓SD.ev_ret, ↓SD.ev_retN, ↓SD.ev_asg, ↓SD.ev_aug, ↓SD.ev_if, ↓SD.ev_for, ↓SD.ev_raise, ↓SD.ev_try, ↓SD.ev_var, ↓SD.ev_c, ↓SD.ev_glob, ↓SD.ev_tup, ↓SD.ev_lst, ↓SD.ev_bin, ↓SD.ev_un, ↓SD.ev_b1, ↓SD.ev_tE, ↓SD.ev_tNot, ↓SD.ev_tAnd, ↓SD.ev_tOr, ↓SD.ev_tYes, ↓SD.ev_not, ↓SD.ev_and, ↓SD.ev_or, ↓SD.ev_ifE, ↓SD.ev_cmp, ↓SD.ev_chain, ↓SD.ev_ix, ↓SD.ev_slice, ↓SD.ev_part1, ↓SD.ev_part0, ↓SD.ev_call, ↓SD.ev_callV, ↓SD.ev_app, ↓SD.ev_gVar, ↓SD.ev_gTup, ↓SD.ev_gIx, ↓SD.ev_iE, ↓SD.ev_iRange1, ↓SD.ev_iRange2, ↓SD.ev_iZip, ↓SD.ev_comp, ↓SD.ev_tupC, ↓SD.ev_allC, ↓SD.ev_anyC, ↓SD.ev_cComp, ↓SD.eList, ↓SD.gSeq, ↓SD.look_zero, ↓SD.look_succ, ↓SD.isa_non, ↓SD.isa_bl, ↓SD.isa_int, ↓SD.isa_str, ↓SD.isa_tup, ↓SD.isa_lref, ↓SD.ite_tt, ↓SD.ite_ff, SD.add_1, SD.add_2, SD.add_3, SD.add_4, SD.sub_1, SD.sub_2, SD.mul_1, SD.mul_2, SD.fdiv_1, SD.mod_1, SD.pow_1, SD.neg_1, SD.tr_non, SD.tr_bl, SD.tr_int, SD.tr_str, SD.tr_tup, SD.tr_lref, SD.lt_1, SD.le_1, SD.is_1, SD.is_2, SD.is_3, SD.is_4, SD.is_5, SD.is_6, SD.is_7, SD.cmp_eq, SD.cmp_ne, SD.cmp_lt, SD.cmp_le, SD.cmp_gt, SD.cmp_ge, SD.cmp_is, SD.cmp_isnot, SD.cmp_in, SD.cmp_notin, SD.eqk_int, SD.eqk_bl, SD.ix_tup, SD.ix_lref, SD.len_tup, SD.len_lref, SD.len_str, SD.abs_int, SD.int_int, SD.int_bl, SD.tuple_tup, SD.tuple_lref, SD.list_tup, SD.list_lref, SD.witer_tup, SD.witer_lref, SD.wzip_tup, SD.wipe_nil, SD.wipe_cons, SD.tru_nil, SD.tru_bl, SD.dE, SD.pairs, SD.allD, SD.anyD, SD.atI_0, SD.atI_1, SD.atI_2, SD.atI_3, SD.isa_NoneType_int, SD.isa_NoneType_bool, SD.isa_NoneType_str, SD.isa_NoneType_tuple, SD.isa_NoneType_list, SD.isa_bool_int, SD.isa_bool_bool, SD.isa_bool_str, SD.isa_bool_tuple, SD.isa_bool_list, SD.isa_int_int, SD.isa_int_bool, SD.isa_int_str, SD.isa_int_tuple, SD.isa_int_list, SD.isa_str_int, SD.isa_str_bool, SD.isa_str_str, SD.isa_str_tuple, SD.isa_str_list, SD.isa_tuple_int, SD.isa_tuple_bool, SD.isa_tuple_str, SD.isa_tuple_tuple, SD.isa_tuple_list, SD.isa_list_int, SD.isa_list_bool, SD.isa_list_str, SD.isa_list_tuple, SD.isa_list_list, List.length_cons, List.length_nil, List.map_cons, List.map_nil, List.set_cons_zero, List.set_cons_succ, List.replicate_succ, List.replicate_zero, List.cons_append, List.nil_append, List.zipWith_cons_cons, List.zipWith_nil_left, Nat.add_sub_cancel, Nat.reduceAdd, Nat.reduceSub, Nat.zero_add, Nat.sub_self, and_true, true_and, reduceCtorEq, if_true, if_false, ite_true, ite_false, Bool.false_eq_true, Bool.not_true, Bool.not_false, decide_eq_true_eq, c1, decide_false, h2])
        exact trE_self rfl h4
    all_goals first
      | (cases h3; done)
      | (((try simp only [SD.startD, List.length_cons, List.length_nil, List.map_cons, List.map_nil, List.replicate_succ, List.replicate_zero, List.cons_append, List.nil_append, Nat.reduceAdd, Nat.reduceSub, Nat.zero_add]); simp only [↓SD.ev_nil, ↓SD.ev_seq, ↓SD.ev_next, ↓SD.ev_break, ↓SD.ev_cont, ↓SD.ev_expr, ↓SD.ev_ret, ↓SD.ev_retN, ↓SD.ev_asg, ↓SD.ev_aug, ↓SD.ev_if, ↓SD.ev_for, ↓SD.ev_raise, ↓SD.ev_try, ↓SD.ev_var, ↓SD.ev_c, ↓SD.ev_glob, ↓SD.ev_tup, ↓SD.ev_lst, ↓SD.ev_bin, ↓SD.ev_un, ↓SD.ev_b1, ↓SD.ev_tE, ↓SD.ev_tNot, ↓SD.ev_tAnd, ↓SD.ev_tOr, ↓SD.ev_tYes, ↓SD.ev_not, ↓SD.ev_and, ↓SD.ev_or, ↓SD.ev_ifE, ↓SD.ev_cmp, ↓SD.ev_chain, ↓SD.ev_ix, ↓SD.ev_slice, ↓SD.ev_part1, ↓SD.ev_part0, ↓SD.ev_call, ↓SD.ev_callV, ↓SD.ev_app, ↓SD.ev_gVar, ↓SD.ev_gTup, ↓SD.ev_gIx, ↓SD.ev_iE, ↓SD.ev_iRange1, ↓SD.ev_iRange2, ↓SD.ev_iZip, ↓SD.ev_comp, ↓SD.ev_tupC, ↓SD.ev_allC, ↓SD.ev_anyC, ↓SD.ev_cComp, ↓SD.eList, ↓SD.gSeq, ↓SD.look_zero, ↓SD.look_succ, ↓SD.isa_non, ↓SD.isa_bl, ↓SD.isa_int, ↓SD.isa_str, ↓SD.isa_tup, ↓SD.isa_lref, ↓SD.ite_tt, ↓SD.ite_ff, SD.add_1, SD.add_2, SD.add_3, SD.add_4, SD.sub_1, SD.sub_2, SD.mul_1, SD.mul_2, SD.fdiv_1, SD.mod_1, SD.pow_1, SD.neg_1, SD.tr_non, SD.tr_bl, SD.tr_int, SD.tr_str, SD.tr_tup, SD.tr_lref, SD.lt_1, SD.le_1, SD.is_1, SD.is_2, SD.is_3, SD.is_4, SD.is_5, SD.is_6, SD.is_7, SD.cmp_eq, SD.cmp_ne, SD.cmp_lt, SD.cmp_le, SD.cmp_gt, SD.cmp_ge, SD.cmp_is, SD.cmp_isnot, SD.cmp_in, SD.cmp_notin, SD.eqk_int, SD.eqk_bl, SD.ix_tup, SD.ix_lref, SD.len_tup, SD.len_lref, SD.len_str, SD.abs_int, SD.int_int, SD.int_bl, SD.tuple_tup, SD.tuple_lref, SD.list_tup, SD.list_lref, SD.witer_tup, SD.witer_lref, SD.wzip_tup, SD.wipe_nil, SD.wipe_cons, SD.tru_nil, SD.tru_bl, SD.dE, SD.pairs, SD.allD, SD.anyD, SD.atI_0, SD.atI_1, SD.atI_2, SD.atI_3, SD.isa_NoneType_int, SD.isa_NoneType_bool, SD.isa_NoneType_str, SD.isa_NoneType_tuple, SD.isa_NoneType_list, SD.isa_bool_int, SD.isa_bool_bool, SD.isa_bool_str, SD.isa_bool_tuple, SD.isa_bool_list, SD.isa_int_int, SD.isa_int_bool, SD.isa_int_str, SD.isa_int_tuple, SD.isa_int_list, SD.isa_str_int, SD.isa_str_bool, SD.isa_str_str, SD.isa_str_tuple, SD.isa_str_list, SD.isa_tuple_int, SD.isa_tuple_bool, SD.isa_tuple_str, SD.isa_tuple_tuple, SD.isa_tuple_list, SD.isa_list_int, SD.isa_list_bool, SD.isa_list_str, SD.isa_list_tuple, SD.isa_list_list, List.length_cons, List.length_nil, List.map_cons, List.map_nil, List.set_cons_zero, List.set_cons_succ, List.replicate_succ, List.replicate_zero, List.cons_append, List.nil_append, List.zipWith_cons_cons, List.zipWith_nil_left, Nat.add_sub_cancel, Nat.reduceAdd, Nat.reduceSub, Nat.zero_add, Nat.sub_self, and_true, true_and, reduceCtorEq, if_true, if_false, ite_true, ite_false, Bool.false_eq_true, Bool.not_true, Bool.not_false, decide_eq_true_eq, h2]); exact trE_self rfl h4)
  · exact h.elim
end SP

-- SQa
set_option Elab.async false
set_option linter.all false
set_option maxRecDepth 100000
set_option maxHeartbeats 1000000
namespace SP
open PySem L2 SD SL
/-! ### the laws' own fractions -/
theorem law_loop (D : DEnds) (S : Store) (n d : SD.D) : ∀ (b a : Nat), D.nx [some n, some d, some (.int (Nat.gcd a b : Nat)), some (.int 0)] S →
    ∃ k, whileN (tE (eCmp .gt (eVar 3) (eC (.int 0)))) (sSeq [sAsg (eTup [eVar 3, eBin modD (eB1 intD (eVar 2)) (eVar 3)]) (gTup [gVar 2, gVar 3])]) D k [some n, some d, some (.int (a : Nat)), some (.int (b : Nat))] S := by
  intro b
  induction b using Nat.strongRecOn with
  | ind b ih =>
    intro a h
    by_cases hb : b = 0
    · subst hb
      refine ⟨1, ?_⟩
      rw [whileN_go]
      ((try simp only [SD.startD, List.length_cons, List.length_nil, List.map_cons, List.map_nil, List.replicate_succ, List.replicate_zero, List.cons_append, List.nil_append, Nat.reduceAdd, Nat.reduceSub, Nat.zero_add]); simp only [↓SD.ev_nil, ↓SD.ev_seq, ↓SD.ev_next, ↓SD.ev_break, ↓SD.ev_cont, ↓SD.ev_expr, ↓SD.ev_ret, ↓SD.ev_retN, ↓SD.ev_asg, ↓SD.ev_aug, ↓SD.ev_if, ↓SD.ev_for, ↓SD.ev_raise, ↓SD.ev_try, ↓SD.ev_var, ↓SD.ev_c, ↓SD.ev_glob, ↓SD.ev_tup, ↓SD.ev_lst, ↓SD.ev_bin, ↓SD.ev_un, ↓SD.ev_b1, ↓SD.ev_tE, ↓SD.ev_tNot, ↓SD.ev_tAnd, ↓SD.ev_tOr, ↓SD.ev_tYes, ↓SD.ev_not, ↓SD.ev_and, ↓SD.ev_or, ↓SD.ev_ifE, ↓SD.ev_cmp, ↓SD.ev_chain, ↓SD.ev_ix, ↓SD.ev_slice, ↓SD.ev_part1, ↓SD.ev_part0, ↓SD.ev_call, ↓SD.ev_callV, ↓SD.ev_app, ↓SD.ev_gVar, ↓SD.ev_gTup, ↓SD.ev_gIx, ↓SD.ev_iE, ↓SD.ev_iRange1, ↓SD.ev_iRange2, ↓SD.ev_iZip, ↓SD.ev_comp, ↓SD.ev_tupC, ↓SD.ev_allC, ↓SD.ev_anyC, ↓SD.ev_cComp, ↓SD.eList, ↓SD.gSeq, ↓SD.look_zero, ↓SD.look_succ, ↓SD.isa_non, ↓SD.isa_bl, ↓SD.isa_int, ↓SD.isa_str, ↓SD.isa_tup, ↓SD.isa_lref, ↓SD.ite_tt, ↓SD.ite_ff, SD.add_1, SD.add_2, SD.add_3, SD.add_4, SD.sub_1, SD.sub_2, SD.mul_1, SD.mul_2, SD.fdiv_1, SD.mod_1, SD.pow_1, SD.neg_1, SD.tr_non, SD.tr_bl, SD.tr_int, SD.tr_str, SD.tr_tup, SD.tr_lref, SD.lt_1, SD.le_1, SD.is_1, SD.is_2, SD.is_3, SD.is_4, SD.is_5, SD.is_6, SD.is_7, SD.cmp_eq, SD.cmp_ne, SD.cmp_lt, SD.cmp_le, SD.cmp_gt, SD.cmp_ge, SD.cmp_is, SD.cmp_isnot, SD.cmp_in, SD.cmp_notin, SD.eqk_int, SD.eqk_bl, SD.ix_tup, SD.ix_lref, SD.len_tup, SD.len_lref, SD.len_str, SD.abs_int, SD.int_int, SD.int_bl, SD.tuple_tup, SD.tuple_lref, SD.list_tup, SD.list_lref, SD.witer_tup, SD.witer_lref, SD.wzip_tup, SD.wipe_nil, SD.wipe_cons, SD.tru_nil, SD.tru_bl, SD.dE, SD.pairs, SD.allD, SD.anyD, SD.atI_0, SD.atI_1, SD.atI_2, SD.atI_3, SD.isa_NoneType_int, SD.isa_NoneType_bool, SD.isa_NoneType_str, SD.isa_NoneType_tuple, SD.isa_NoneType_list, SD.isa_bool_int, SD.isa_bool_bool, SD.isa_bool_str, SD.isa_bool_tuple, SD.isa_bool_list, SD.isa_int_int, SD.isa_int_bool, SD.isa_int_str, SD.isa_int_tuple, SD.isa_int_list, SD.isa_str_int, SD.isa_str_bool, SD.isa_str_str, SD.isa_str_tuple, SD.isa_str_list, SD.isa_tuple_int, SD.isa_tuple_bool, SD.isa_tuple_str, SD.isa_tuple_tuple, SD.isa_tuple_list, SD.isa_list_int, SD.isa_list_bool, SD.isa_list_str, SD.isa_list_tuple, SD.isa_list_list, List.length_cons, List.length_nil, List.map_cons, List.map_nil, List.set_cons_zero, List.set_cons_succ, List.replicate_succ, List.replicate_zero, List.cons_append, List.nil_append, List.zipWith_cons_cons, List.zipWith_nil_left, Nat.add_sub_cancel, Nat.reduceAdd, Nat.reduceSub, Nat.zero_add, Nat.sub_self, and_true, true_and, reduceCtorEq, if_true, if_false, ite_true, ite_false, Bool.false_eq_true, Bool.not_true, Bool.not_false, decide_eq_true_eq, show decide ((0 : Int) < ((0 : Nat) : Int)) = false by decide])
      simpa using h
    · have hlt : a % b < b := Nat.mod_lt _ (Nat.pos_of_ne_zero hb)
      obtain ⟨k, hk⟩ := ih (a % b) hlt b (by rw [Nat.gcd_comm, ← Nat.gcd_rec]; rw [Nat.gcd_comm]; exact h)
      refine ⟨k + 1, ?_⟩
      rw [whileN_go]
      have e0 : (0 : Int) < (b : Int) := by omega
      ((try simp only [SD.startD, List.length_cons, List.length_nil, List.map_cons, List.map_nil, List.replicate_succ, List.replicate_zero, List.cons_append, List.nil_append, Nat.reduceAdd, Nat.reduceSub, Nat.zero_add]); simp only [↓SD.ev_nil, ↓SD.ev_seq, ↓SD.ev_next, ↓SD.ev_break, ↓SD.ev_cont, ↓SD.ev_expr, ↓SD.ev_ret, ↓SD.ev_retN, ↓SD.ev_asg, ↓SD.ev_aug, ↓SD.ev_if, ↓SD.ev_for, ↓SD.ev_raise, ↓SD.ev_try, ↓SD.ev_var, ↓SD.ev_c, ↓SD.ev_glob, ↓SD.ev_tup, ↓SD.ev_lst, ↓SD.ev_bin, ↓SD.ev_un, ↓SD.ev_b1, ↓SD.ev_tE, ↓SD.ev_tNot, ↓SD.ev_tAnd, ↓SD.ev_tOr, ↓SD.ev_tYes, ↓SD.ev_not, ↓SD.ev_and, ↓SD.ev_or, ↓SD.ev_ifE, ↓SD.ev_cmp, ↓SD.ev_chain, ↓SD.ev_ix, ↓SD.ev_slice, ↓SD.ev_part1, ↓SD.ev_part0, ↓SD.ev_call, ↓SD.ev_callV, ↓SD.ev_app, ↓SD.ev_gVar, ↓SD.ev_gTup, ↓SD.ev_gIx, ↓SD.ev_iE, ↓SD.ev_iRange1, ↓SD.ev_iRange2, ↓SD.ev_iZip, ↓SD.ev_comp, ↓SD.ev_tupC, ↓SD.ev_allC, ↓SD.ev_anyC, ↓SD.ev_cComp, ↓SD.eList, ↓SD.gSeq, ↓SD.look_zero, ↓SD.look_succ, ↓SD.isa_non, ↓SD.isa_bl, ↓SD.isa_int, ↓SD.isa_str, ↓SD.isa_tup, ↓SD.isa_lref, ↓SD.ite_tt, ↓SD.ite_ff, SD.add_1, SD.add_2, SD.add_3, SD.add_4, SD.sub_1, SD.sub_2, SD.mul_1, SD.mul_2, SD.fdiv_1, SD.mod_1, SD.pow_1, SD.neg_1, SD.tr_non, SD.tr_bl, SD.tr_int, SD.tr_str, SD.tr_tup, SD.tr_lref, SD.lt_1, SD.le_1, SD.is_1, SD.is_2, SD.is_3, SD.is_4, SD.is_5, SD.is_6, SD.is_7, SD.cmp_eq, SD.cmp_ne, SD.cmp_lt, SD.cmp_le, SD.cmp_gt, SD.cmp_ge, SD.cmp_is, SD.cmp_isnot, SD.cmp_in, SD.cmp_notin, SD.eqk_int, SD.eqk_bl, SD.ix_tup, SD.ix_lref, SD.len_tup, SD.len_lref, SD.len_str, SD.abs_int, SD.int_int, SD.int_bl, SD.tuple_tup, SD.tuple_lref, SD.list_tup, SD.list_lref, SD.witer_tup, SD.witer_lref, SD.wzip_tup, SD.wipe_nil, SD.wipe_cons, SD.tru_nil, SD.tru_bl, SD.dE, SD.pairs, SD.allD, SD.anyD, SD.atI_0, SD.atI_1, SD.atI_2, SD.atI_3, SD.isa_NoneType_int, SD.isa_NoneType_bool, SD.isa_NoneType_str, SD.isa_NoneType_tuple, SD.isa_NoneType_list, SD.isa_bool_int, SD.isa_bool_bool, SD.isa_bool_str, SD.isa_bool_tuple, SD.isa_bool_list, SD.isa_int_int, SD.isa_int_bool, SD.isa_int_str, SD.isa_int_tuple, SD.isa_int_list, SD.isa_str_int, SD.isa_str_bool, SD.isa_str_str, SD.isa_str_tuple, SD.isa_str_list, SD.isa_tuple_int, SD.isa_tuple_bool, SD.isa_tuple_str, SD.isa_tuple_tuple, SD.isa_tuple_list, SD.isa_list_int, SD.isa_list_bool, SD.isa_list_str, SD.isa_list_tuple, SD.isa_list_list, List.length_cons, List.length_nil, List.map_cons, List.map_nil, List.set_cons_zero, List.set_cons_succ, List.replicate_succ, List.replicate_zero, List.cons_append, List.nil_append, List.zipWith_cons_cons, List.zipWith_nil_left, Nat.add_sub_cancel, Nat.reduceAdd, Nat.reduceSub, Nat.zero_add, Nat.sub_self, and_true, true_and, reduceCtorEq, if_true, if_false, ite_true, ite_false, Bool.false_eq_true, Bool.not_true, Bool.not_false, decide_eq_true_eq, e0])
      refine ⟨by omega, ?_⟩
      have e : Int.fmod (a : Int) (b : Int) = ((a % b : Nat) : Int) := by
        rw [Int.fmod_eq_emod_of_nonneg _ (by omega)]
        rfl
      rw [e]
      exact hk
theorem h__law_made (T : Tab) : Meets sp_made N__law_made (t__law_made T) := by
  intro ds S E Q hl h
  unfold sp_made at h
  unfold t__law_made N__law_made
  dsimp only at h
  split at h
  · rename_i n d
    obtain ⟨⟨h2, h3⟩, h4⟩ := h
    have gl : ∀ m : Int, m ≠ 0 → m.natAbs < 2 ^ 8000 → ∀ k : Int, ((Int.gcd k m : Nat) : Int) ≠ 0 ∧ ((Int.gcd k m : Nat) : Int).natAbs.log2 < 9000 := fun m hm hs k => by
      have g0 : 0 < Int.gcd k m := Int.gcd_pos_of_ne_zero_right _ hm
      refine ⟨by omega, ?_⟩
      have gle : Int.gcd k m ≤ m.natAbs := Nat.le_of_dvd (by omega) (Nat.gcd_dvd_right _ _)
      have : ((Int.gcd k m : Nat) : Int).natAbs < 2 ^ 8000 := by
        rw [Int.natAbs_natCast]
        exact Nat.lt_of_le_of_lt gle hs
      exact Nat.lt_of_lt_of_le (log2_lt_of this (by decide)) (by decide)
    ((try simp only [SD.startD, List.length_cons, List.length_nil, List.map_cons, List.map_nil, List.replicate_succ, List.replicate_zero, List.cons_append, List.nil_append, Nat.reduceAdd, Nat.reduceSub, Nat.zero_add]); simp only [↓SD.ev_nil, ↓SD.ev_seq, ↓SD.ev_next, ↓SD.ev_break, ↓SD.ev_cont, ↓SD.ev_expr, ↓SD.ev_ret, ↓SD.ev_retN, ↓SD.ev_asg, ↓SD.ev_aug, ↓SD.ev_if, ↓SD.ev_for, ↓SD.ev_raise, ↓SD.ev_try, ↓SD.ev_var, ↓SD.ev_c, ↓SD.ev_glob, ↓SD.ev_tup, ↓SD.ev_lst, ↓SD.ev_bin, ↓SD.ev_un, ↓SD.ev_b1, ↓SD.ev_tE, ↓SD.ev_tNot, ↓SD.ev_tAnd, ↓SD.ev_tOr, ↓SD.ev_tYes, ↓SD.ev_not, ↓SD.ev_and, ↓SD.ev_or, ↓SD.ev_ifE, ↓SD.ev_cmp, ↓SD.ev_chain, ↓SD.ev_ix, ↓SD.ev_slice, ↓SD.ev_part1, ↓SD.ev_part0, ↓SD.ev_call, ↓SD.ev_callV, ↓SD.ev_app, ↓SD.ev_gVar, ↓SD.ev_gTup, ↓SD.ev_gIx, ↓SD.ev_iE, ↓SD.ev_iRange1, ↓SD.ev_iRange2, ↓SD.ev_iZip, ↓SD.ev_comp, ↓SD.ev_tupC, ↓SD.ev_allC, ↓SD.ev_anyC, ↓SD.ev_cComp, ↓SD.eList, ↓SD.gSeq, ↓SD.look_zero, ↓SD.look_succ, ↓SD.isa_non, ↓SD.isa_bl, ↓SD.isa_int, ↓SD.isa_str, ↓SD.isa_tup, ↓SD.isa_lref, ↓SD.ite_tt, ↓SD.ite_ff, SD.add_1, SD.add_2, SD.add_3, SD.add_4, SD.sub_1, SD.sub_2, SD.mul_1, SD.mul_2, SD.fdiv_1, SD.mod_1, SD.pow_1, SD.neg_1, SD.tr_non, SD.tr_bl, SD.tr_int, SD.tr_str, SD.tr_tup, SD.tr_lref, SD.lt_1, SD.le_1, SD.is_1, SD.is_2, SD.is_3, SD.is_4, SD.is_5, SD.is_6, SD.is_7, SD.cmp_eq, SD.cmp_ne, SD.cmp_lt, SD.cmp_le, SD.cmp_gt, SD.cmp_ge, SD.cmp_is, SD.cmp_isnot, SD.cmp_in, SD.cmp_notin, SD.eqk_int, SD.eqk_bl, SD.ix_tup, SD.ix_lref, SD.len_tup, SD.len_lref, SD.len_str, SD.abs_int, SD.int_int, SD.int_bl, SD.tuple_tup, SD.tuple_lref, SD.list_tup, SD.list_lref, SD.witer_tup, SD.witer_lref, SD.wzip_tup, SD.wipe_nil, SD.wipe_cons, SD.tru_nil, SD.tru_bl, SD.dE, SD.pairs, SD.allD, SD.anyD, SD.atI_0, SD.atI_1, SD.atI_2, SD.atI_3, SD.isa_NoneType_int, SD.isa_NoneType_bool, SD.isa_NoneType_str, SD.isa_NoneType_tuple, SD.isa_NoneType_list, SD.isa_bool_int, SD.isa_bool_bool, SD.isa_bool_str, SD.isa_bool_tuple, SD.isa_bool_list, SD.isa_int_int, SD.isa_int_bool, SD.isa_int_str, SD.isa_int_tuple, SD.isa_int_list, SD.isa_str_int, SD.isa_str_bool, SD.isa_str_str, SD.isa_str_tuple, SD.isa_str_list, SD.isa_tuple_int, SD.isa_tuple_bool, SD.isa_tuple_str, SD.isa_tuple_tuple, SD.isa_tuple_list, SD.isa_list_int, SD.isa_list_bool, SD.isa_list_str, SD.isa_list_tuple, SD.isa_list_list, List.length_cons, List.length_nil, List.map_cons, List.map_nil, List.set_cons_zero, List.set_cons_succ, List.replicate_succ, List.replicate_zero, List.cons_append, List.nil_append, List.zipWith_cons_cons, List.zipWith_nil_left, Nat.add_sub_cancel, Nat.reduceAdd, Nat.reduceSub, Nat.zero_add, Nat.sub_self, and_true, true_and, reduceCtorEq, if_true, if_false, ite_true, ite_false, Bool.false_eq_true, Bool.not_true, Bool.not_false, decide_eq_true_eq, abs_nat, sWhile])
    refine law_loop _ S (.int n) (.int d) d.natAbs n.natAbs ?_
    have eg : ((Nat.gcd n.natAbs d.natAbs : Nat) : Int) = (Int.gcd n d : Nat) := rfl
    rw [eg]
    ((try simp only [SD.startD, List.length_cons, List.length_nil, List.map_cons, List.map_nil, List.replicate_succ, List.replicate_zero, List.cons_append, List.nil_append, Nat.reduceAdd, Nat.reduceSub, Nat.zero_add]); simp only [↓SD.ev_nil, ↓SD.ev_seq, ↓SD.ev_next, ↓SD.ev_break, ↓SD.ev_cont, ↓SD.ev_expr, ↓SD.ev_ret, ↓SD.ev_retN, ↓SD.ev_asg, ↓SD.ev_aug, ↓SD.ev_if, ↓SD.ev_for, ↓SD.ev_raise, ↓SD.ev_try, ↓SD.ev_var, ↓SD.ev_c, ↓SD.ev_glob, ↓SD.ev_tup, ↓SD.ev_lst, ↓SD.ev_bin, ↓SD.ev_un, ↓SD.ev_b1, ↓SD.ev_tE, ↓SD.ev_tNot, ↓SD.ev_tAnd, ↓SD.ev_tOr, ↓SD.ev_tYes, ↓SD.ev_not, ↓SD.ev_and, ↓SD.ev_or, ↓SD.ev_ifE, ↓SD.ev_cmp, ↓SD.ev_chain, ↓SD.ev_ix, ↓SD.ev_slice, ↓SD.ev_part1, ↓SD.ev_part0, ↓SD.ev_call, ↓SD.ev_callV, ↓SD.ev_app, ↓SD.ev_gVar, ↓SD.ev_gTup, ↓SD.ev_gIx, ↓SD.ev_iE, ↓SD.ev_iRange1, ↓SD.ev_iRange2, ↓SD.ev_iZip, ↓SD.ev_comp, ↓SD.ev_tupC, ↓SD.ev_allC, ↓SD.ev_anyC, ↓SD.ev_cComp, ↓SD.eList, ↓SD.gSeq, ↓SD.look_zero, ↓SD.look_succ, ↓SD.isa_non, ↓SD.isa_bl, ↓SD.isa_int, ↓SD.isa_str, ↓SD.isa_tup, ↓SD.isa_lref, ↓SD.ite_tt, ↓SD.ite_ff, SD.add_1, SD.add_2, SD.add_3, SD.add_4, SD.sub_1, SD.sub_2, SD.mul_1, SD.mul_2, SD.fdiv_1, SD.mod_1, SD.pow_1, SD.neg_1, SD.tr_non, SD.tr_bl, SD.tr_int, SD.tr_str, SD.tr_tup, SD.tr_lref, SD.lt_1, SD.le_1, SD.is_1, SD.is_2, SD.is_3, SD.is_4, SD.is_5, SD.is_6, SD.is_7, SD.cmp_eq, SD.cmp_ne, SD.cmp_lt, SD.cmp_le, SD.cmp_gt, SD.cmp_ge, SD.cmp_is, SD.cmp_isnot, SD.cmp_in, SD.cmp_notin, SD.eqk_int, SD.eqk_bl, SD.ix_tup, SD.ix_lref, SD.len_tup, SD.len_lref, SD.len_str, SD.abs_int, SD.int_int, SD.int_bl, SD.tuple_tup, SD.tuple_lref, SD.list_tup, SD.list_lref, SD.witer_tup, SD.witer_lref, SD.wzip_tup, SD.wipe_nil, SD.wipe_cons, SD.tru_nil, SD.tru_bl, SD.dE, SD.pairs, SD.allD, SD.anyD, SD.atI_0, SD.atI_1, SD.atI_2, SD.atI_3, SD.isa_NoneType_int, SD.isa_NoneType_bool, SD.isa_NoneType_str, SD.isa_NoneType_tuple, SD.isa_NoneType_list, SD.isa_bool_int, SD.isa_bool_bool, SD.isa_bool_str, SD.isa_bool_tuple, SD.isa_bool_list, SD.isa_int_int, SD.isa_int_bool, SD.isa_int_str, SD.isa_int_tuple, SD.isa_int_list, SD.isa_str_int, SD.isa_str_bool, SD.isa_str_str, SD.isa_str_tuple, SD.isa_str_list, SD.isa_tuple_int, SD.isa_tuple_bool, SD.isa_tuple_str, SD.isa_tuple_tuple, SD.isa_tuple_list, SD.isa_list_int, SD.isa_list_bool, SD.isa_list_str, SD.isa_list_tuple, SD.isa_list_list, List.length_cons, List.length_nil, List.map_cons, List.map_nil, List.set_cons_zero, List.set_cons_succ, List.replicate_succ, List.replicate_zero, List.cons_append, List.nil_append, List.zipWith_cons_cons, List.zipWith_nil_left, Nat.add_sub_cancel, Nat.reduceAdd, Nat.reduceSub, Nat.zero_add, Nat.sub_self, and_true, true_and, reduceCtorEq, if_true, if_false, ite_true, ite_false, Bool.false_eq_true, Bool.not_true, Bool.not_false, decide_eq_true_eq])
    by_cases hd : d < 0
    · simp only [hd, if_true]
      have hm : (0 - d) ≠ 0 := by omega
      have hs : (0 - d).natAbs < 2 ^ 8000 := by rw [show (0 - d).natAbs = d.natAbs by omega]; exact h3
      have e2 : Int.gcd n d = Int.gcd (0 - n) (0 - d) := by simp [Int.gcd]
      try ((try simp only [SD.startD, List.length_cons, List.length_nil, List.map_cons, List.map_nil, List.replicate_succ, List.replicate_zero, List.cons_append, List.nil_append, Nat.reduceAdd, Nat.reduceSub, Nat.zero_add]); simp only [↓SD.ev_nil, ↓SD.ev_seq, ↓SD.ev_next, ↓SD.ev_break, ↓SD.ev_cont, ↓SD.ev_expr, ↓SD.ev_ret, ↓SD.ev_retN, ↓SD.ev_asg, ↓SD.ev_aug, ↓SD.ev_if, ↓SD.ev_for, ↓SD.ev_raise, ↓SD.ev_try, ↓SD.ev_var, ↓SD.ev_c, ↓SD.ev_glob, ↓SD.ev_tup, ↓SD.ev_lst, ↓SD.ev_bin, ↓SD.ev_un, ↓SD.ev_b1, ↓SD.ev_tE, ↓SD.ev_tNot, ↓SD.ev_tAnd, ↓SD.ev_tOr, ↓SD.ev_tYes, ↓SD.ev_not, ↓SD.ev_and, ↓SD.ev_or, ↓SD.ev_ifE, ↓SD.ev_cmp, ↓SD.ev_chain, ↓SD.ev_ix, ↓SD.ev_slice, ↓SD.ev_part1, ↓SD.ev_part0, ↓SD.ev_call, ↓SD.ev_callV, ↓SD.ev_app, ↓SD.ev_gVar, ↓SD.ev_gTup, ↓SD.ev_gIx, ↓SD.ev_iE, ↓SD.ev_iRange1, ↓SD.ev_iRange2, ↓SD.ev_iZip, ↓SD.ev_comp, ↓SD.ev_tupC, ↓SD.ev_allC, ↓SD.ev_anyC, ↓SD.ev_cComp, ↓SD.eList, ↓SD.gSeq, ↓SD.look_zero, ↓SD.look_succ, ↓SD.isa_non, ↓SD.isa_bl, ↓SD.isa_int, ↓SD.isa_str, ↓SD.isa_tup, ↓SD.isa_lref, ↓SD.ite_tt, ↓SD.ite_ff, SD.add_1, SD.add_2, SD.add_3, SD.add_4, SD.sub_1, SD.sub_2, SD.mul_1, SD.mul_2, SD.fdiv_1, SD.mod_1, SD.pow_1, SD.neg_1, SD.tr_non, SD.tr_bl, SD.tr_int, SD.tr_str, SD.tr_tup, SD.tr_lref, SD.lt_1, SD.le_1, SD.is_1, SD.is_2, SD.is_3, SD.is_4, SD.is_5, SD.is_6, SD.is_7, SD.cmp_eq, SD.cmp_ne, SD.cmp_lt, SD.cmp_le, SD.cmp_gt, SD.cmp_ge, SD.cmp_is, SD.cmp_isnot, SD.cmp_in, SD.cmp_notin, SD.eqk_int, SD.eqk_bl, SD.ix_tup, SD.ix_lref, SD.len_tup, SD.len_lref, SD.len_str, SD.abs_int, SD.int_int, SD.int_bl, SD.tuple_tup, SD.tuple_lref, SD.list_tup, SD.list_lref, SD.witer_tup, SD.witer_lref, SD.wzip_tup, SD.wipe_nil, SD.wipe_cons, SD.tru_nil, SD.tru_bl, SD.dE, SD.pairs, SD.allD, SD.anyD, SD.atI_0, SD.atI_1, SD.atI_2, SD.atI_3, SD.isa_NoneType_int, SD.isa_NoneType_bool, SD.isa_NoneType_str, SD.isa_NoneType_tuple, SD.isa_NoneType_list, SD.isa_bool_int, SD.isa_bool_bool, SD.isa_bool_str, SD.isa_bool_tuple, SD.isa_bool_list, SD.isa_int_int, SD.isa_int_bool, SD.isa_int_str, SD.isa_int_tuple, SD.isa_int_list, SD.isa_str_int, SD.isa_str_bool, SD.isa_str_str, SD.isa_str_tuple, SD.isa_str_list, SD.isa_tuple_int, SD.isa_tuple_bool, SD.isa_tuple_str, SD.isa_tuple_tuple, SD.isa_tuple_list, SD.isa_list_int, SD.isa_list_bool, SD.isa_list_str, SD.isa_list_tuple, SD.isa_list_list, List.length_cons, List.length_nil, List.map_cons, List.map_nil, List.set_cons_zero, List.set_cons_succ, List.replicate_succ, List.replicate_zero, List.cons_append, List.nil_append, List.zipWith_cons_cons, List.zipWith_nil_left, Nat.add_sub_cancel, Nat.reduceAdd, Nat.reduceSub, Nat.zero_add, Nat.sub_self, and_true, true_and, reduceCtorEq, if_true, if_false, ite_true, ite_false, Bool.false_eq_true, Bool.not_true, Bool.not_false, decide_eq_true_eq])
      rw [e2]
      refine ⟨gl _ hm hs _, gl _ hm hs _, ?_⟩
      rw [made_eq (by omega)]
      have e : Rat.divInt (0 - n) (0 - d) = Rat.divInt n d := by
        rw [Int.zero_sub, Int.zero_sub]
        exact Rat.neg_divInt_neg ..
      rw [e]
      exact trQ_self rfl h4
    · simp only [hd, if_false]
      try ((try simp only [SD.startD, List.length_cons, List.length_nil, List.map_cons, List.map_nil, List.replicate_succ, List.replicate_zero, List.cons_append, List.nil_append, Nat.reduceAdd, Nat.reduceSub, Nat.zero_add]); simp only [↓SD.ev_nil, ↓SD.ev_seq, ↓SD.ev_next, ↓SD.ev_break, ↓SD.ev_cont, ↓SD.ev_expr, ↓SD.ev_ret, ↓SD.ev_retN, ↓SD.ev_asg, ↓SD.ev_aug, ↓SD.ev_if, ↓SD.ev_for, ↓SD.ev_raise, ↓SD.ev_try, ↓SD.ev_var, ↓SD.ev_c, ↓SD.ev_glob, ↓SD.ev_tup, ↓SD.ev_lst, ↓SD.ev_bin, ↓SD.ev_un, ↓SD.ev_b1, ↓SD.ev_tE, ↓SD.ev_tNot, ↓SD.ev_tAnd, ↓SD.ev_tOr, ↓SD.ev_tYes, ↓SD.ev_not, ↓SD.ev_and, ↓SD.ev_or, ↓SD.ev_ifE, ↓SD.ev_cmp, ↓SD.ev_chain, ↓SD.ev_ix, ↓SD.ev_slice, ↓SD.ev_part1, ↓SD.ev_part0, ↓SD.ev_call, ↓SD.ev_callV, ↓SD.ev_app, ↓SD.ev_gVar, ↓SD.ev_gTup, ↓SD.ev_gIx, ↓SD.ev_iE, ↓SD.ev_iRange1, ↓SD.ev_iRange2, ↓SD.ev_iZip, ↓SD.ev_comp, ↓SD.ev_tupC, ↓SD.ev_allC, ↓SD.ev_anyC, ↓SD.ev_cComp, ↓SD.eList, ↓SD.gSeq, ↓SD.look_zero, ↓SD.look_succ, ↓SD.isa_non, ↓SD.isa_bl, ↓SD.isa_int, ↓SD.isa_str, ↓SD.isa_tup, ↓SD.isa_lref, ↓SD.ite_tt, ↓SD.ite_ff, SD.add_1, SD.add_2, SD.add_3, SD.add_4, SD.sub_1, SD.sub_2, SD.mul_1, SD.mul_2, SD.fdiv_1, SD.mod_1, SD.pow_1, SD.neg_1, SD.tr_non, SD.tr_bl, SD.tr_int, SD.tr_str, SD.tr_tup, SD.tr_lref, SD.lt_1, SD.le_1, SD.is_1, SD.is_2, SD.is_3, SD.is_4, SD.is_5, SD.is_6, SD.is_7, SD.cmp_eq, SD.cmp_ne, SD.cmp_lt, SD.cmp_le, SD.cmp_gt, SD.cmp_ge, SD.cmp_is, SD.cmp_isnot, SD.cmp_in, SD.cmp_notin, SD.eqk_int, SD.eqk_bl, SD.ix_tup, SD.ix_lref, SD.len_tup, SD.len_lref, SD.len_str, SD.abs_int, SD.int_int, SD.int_bl, SD.tuple_tup, SD.tuple_lref, SD.list_tup, SD.list_lref, SD.witer_tup, SD.witer_lref, SD.wzip_tup, SD.wipe_nil, SD.wipe_cons, SD.tru_nil, SD.tru_bl, SD.dE, SD.pairs, SD.allD, SD.anyD, SD.atI_0, SD.atI_1, SD.atI_2, SD.atI_3, SD.isa_NoneType_int, SD.isa_NoneType_bool, SD.isa_NoneType_str, SD.isa_NoneType_tuple, SD.isa_NoneType_list, SD.isa_bool_int, SD.isa_bool_bool, SD.isa_bool_str, SD.isa_bool_tuple, SD.isa_bool_list, SD.isa_int_int, SD.isa_int_bool, SD.isa_int_str, SD.isa_int_tuple, SD.isa_int_list, SD.isa_str_int, SD.isa_str_bool, SD.isa_str_str, SD.isa_str_tuple, SD.isa_str_list, SD.isa_tuple_int, SD.isa_tuple_bool, SD.isa_tuple_str, SD.isa_tuple_tuple, SD.isa_tuple_list, SD.isa_list_int, SD.isa_list_bool, SD.isa_list_str, SD.isa_list_tuple, SD.isa_list_list, List.length_cons, List.length_nil, List.map_cons, List.map_nil, List.set_cons_zero, List.set_cons_succ, List.replicate_succ, List.replicate_zero, List.cons_append, List.nil_append, List.zipWith_cons_cons, List.zipWith_nil_left, Nat.add_sub_cancel, Nat.reduceAdd, Nat.reduceSub, Nat.zero_add, Nat.sub_self, and_true, true_and, reduceCtorEq, if_true, if_false, ite_true, ite_false, Bool.false_eq_true, Bool.not_true, Bool.not_false, decide_eq_true_eq])
      refine ⟨gl _ h2 h3 _, gl _ h2 h3 _, ?_⟩
      rw [made_eq (by omega)]
      exact trQ_self rfl h4
  · exact h.elim
theorem h__law_add (T : Tab) (h1 : T.sp "_law_made" = some sp_made) : Meets sp_added N__law_add (t__law_add T) := by
  refine q2_in fun a b S E Q ⟨ha, hb⟩ h => ?_
  unfold t__law_add N__law_add
  unfold Sm at ha hb
  have d1 : (a.den : Int).natAbs < 2 ^ 3900 := by rw [den_nat]; exact ha.2
  have d2 : (b.den : Int).natAbs < 2 ^ 3900 := by rw [den_nat]; exact hb.2
  have u : ∀ {n : Nat}, n < 2 ^ 3900 → n < 2 ^ 8000 := fun h => up8 h (by decide)
  ((try simp only [SD.startD, List.length_cons, List.length_nil, List.map_cons, List.map_nil, List.replicate_succ, List.replicate_zero, List.cons_append, List.nil_append, Nat.reduceAdd, Nat.reduceSub, Nat.zero_add]); simp only [↓SD.ev_nil, ↓SD.ev_seq, ↓SD.ev_next, ↓SD.ev_break, ↓SD.ev_cont, ↓SD.ev_expr, ↓SD.ev_ret, ↓SD.ev_retN, ↓SD.ev_asg, ↓SD.ev_aug, ↓SD.ev_if, ↓SD.ev_for, ↓SD.ev_raise, ↓SD.ev_try, ↓SD.ev_var, ↓SD.ev_c, ↓SD.ev_glob, ↓SD.ev_tup, ↓SD.ev_lst, ↓SD.ev_bin, ↓SD.ev_un, ↓SD.ev_b1, ↓SD.ev_tE, ↓SD.ev_tNot, ↓SD.ev_tAnd, ↓SD.ev_tOr, ↓SD.ev_tYes, ↓SD.ev_not, ↓SD.ev_and, ↓SD.ev_or, ↓SD.ev_ifE, ↓SD.ev_cmp, ↓SD.ev_chain, ↓SD.ev_ix, ↓SD.ev_slice, ↓SD.ev_part1, ↓SD.ev_part0, ↓SD.ev_call, ↓SD.ev_callV, ↓SD.ev_app, ↓SD.ev_gVar, ↓SD.ev_gTup, ↓SD.ev_gIx, ↓SD.ev_iE, ↓SD.ev_iRange1, ↓SD.ev_iRange2, ↓SD.ev_iZip, ↓SD.ev_comp, ↓SD.ev_tupC, ↓SD.ev_allC, ↓SD.ev_anyC, ↓SD.ev_cComp, ↓SD.eList, ↓SD.gSeq, ↓SD.look_zero, ↓SD.look_succ, ↓SD.isa_non, ↓SD.isa_bl, ↓SD.isa_int, ↓SD.isa_str, ↓SD.isa_tup, ↓SD.isa_lref, ↓SD.ite_tt, ↓SD.ite_ff, SD.add_1, SD.add_2, SD.add_3, SD.add_4, SD.sub_1, SD.sub_2, SD.mul_1, SD.mul_2, SD.fdiv_1, SD.mod_1, SD.pow_1, SD.neg_1, SD.tr_non, SD.tr_bl, SD.tr_int, SD.tr_str, SD.tr_tup, SD.tr_lref, SD.lt_1, SD.le_1, SD.is_1, SD.is_2, SD.is_3, SD.is_4, SD.is_5, SD.is_6, SD.is_7, SD.cmp_eq, SD.cmp_ne, SD.cmp_lt, SD.cmp_le, SD.cmp_gt, SD.cmp_ge, SD.cmp_is, SD.cmp_isnot, SD.cmp_in, SD.cmp_notin, SD.eqk_int, SD.eqk_bl, SD.ix_tup, SD.ix_lref, SD.len_tup, SD.len_lref, SD.len_str, SD.abs_int, SD.int_int, SD.int_bl, SD.tuple_tup, SD.tuple_lref, SD.list_tup, SD.list_lref, SD.witer_tup, SD.witer_lref, SD.wzip_tup, SD.wipe_nil, SD.wipe_cons, SD.tru_nil, SD.tru_bl, SD.dE, SD.pairs, SD.allD, SD.anyD, SD.atI_0, SD.atI_1, SD.atI_2, SD.atI_3, SD.isa_NoneType_int, SD.isa_NoneType_bool, SD.isa_NoneType_str, SD.isa_NoneType_tuple, SD.isa_NoneType_list, SD.isa_bool_int, SD.isa_bool_bool, SD.isa_bool_str, SD.isa_bool_tuple, SD.isa_bool_list, SD.isa_int_int, SD.isa_int_bool, SD.isa_int_str, SD.isa_int_tuple, SD.isa_int_list, SD.isa_str_int, SD.isa_str_bool, SD.isa_str_str, SD.isa_str_tuple, SD.isa_str_list, SD.isa_tuple_int, SD.isa_tuple_bool, SD.isa_tuple_str, SD.isa_tuple_tuple, SD.isa_tuple_list, SD.isa_list_int, SD.isa_list_bool, SD.isa_list_str, SD.isa_list_tuple, SD.isa_list_list, List.length_cons, List.length_nil, List.map_cons, List.map_nil, List.set_cons_zero, List.set_cons_succ, List.replicate_succ, List.replicate_zero, List.cons_append, List.nil_append, List.zipWith_cons_cons, List.zipWith_nil_left, Nat.add_sub_cancel, Nat.reduceAdd, Nat.reduceSub, Nat.zero_add, Nat.sub_self, and_true, true_and, reduceCtorEq, if_true, if_false, ite_true, ite_false, Bool.false_eq_true, Bool.not_true, Bool.not_false, decide_eq_true_eq, SD.forLoop, SD.compLoop, h1, ix_fr0, ix_fr1, sp_made])
  refine ⟨mulOk_of (u ha.1) (u d2), mulOk_of (u hb.1) (u d1), mulOk_of (u d1) (u d2), ⟨Int.mul_ne_zero (den_ne a) (den_ne b), up8 (sm1 (k := 0) d1 d2) (by decide)⟩, ?_⟩
  rw [rat_add]
  exact trQ_self rfl h
theorem h__law_mul (T : Tab) (h1 : T.sp "_law_made" = some sp_made) : Meets sp_multiplied N__law_mul (t__law_mul T) := by
  refine q2_in fun a b S E Q ⟨ha, hb⟩ h => ?_
  unfold t__law_mul N__law_mul
  unfold Sm at ha hb
  have d1 : (a.den : Int).natAbs < 2 ^ 3900 := by rw [den_nat]; exact ha.2
  have d2 : (b.den : Int).natAbs < 2 ^ 3900 := by rw [den_nat]; exact hb.2
  have u : ∀ {n : Nat}, n < 2 ^ 3900 → n < 2 ^ 8000 := fun h => up8 h (by decide)
  ((try simp only [SD.startD, List.length_cons, List.length_nil, List.map_cons, List.map_nil, List.replicate_succ, List.replicate_zero, List.cons_append, List.nil_append, Nat.reduceAdd, Nat.reduceSub, Nat.zero_add]); simp only [↓SD.ev_nil, ↓SD.ev_seq, ↓SD.ev_next, ↓SD.ev_break, ↓SD.ev_cont, ↓SD.ev_expr, ↓SD.ev_ret, ↓SD.ev_retN, ↓SD.ev_asg, ↓SD.ev_aug, ↓SD.ev_if, ↓SD.ev_for, ↓SD.ev_raise, ↓SD.ev_try, ↓SD.ev_var, ↓SD.ev_c, ↓SD.ev_glob, ↓SD.ev_tup, ↓SD.ev_lst, ↓SD.ev_bin, ↓SD.ev_un, ↓SD.ev_b1, ↓SD.ev_tE, ↓SD.ev_tNot, ↓SD.ev_tAnd, ↓SD.ev_tOr, ↓SD.ev_tYes, ↓SD.ev_not, ↓SD.ev_and, ↓SD.ev_or, ↓SD.ev_ifE, ↓SD.ev_cmp, ↓SD.ev_chain, ↓SD.ev_ix, ↓SD.ev_slice, ↓SD.ev_part1, ↓SD.ev_part0, ↓SD.ev_call, ↓SD.ev_callV, ↓SD.ev_app, ↓SD.ev_gVar, ↓SD.ev_gTup, ↓SD.ev_gIx, ↓SD.ev_iE, ↓SD.ev_iRange1, ↓SD.ev_iRange2, ↓SD.ev_iZip, ↓SD.ev_comp, ↓SD.ev_tupC, ↓SD.ev_allC, ↓SD.ev_anyC, ↓SD.ev_cComp, ↓SD.eList, ↓SD.gSeq, ↓SD.look_zero, ↓SD.look_succ, ↓SD.isa_non, ↓SD.isa_bl, ↓SD.isa_int, ↓SD.isa_str, ↓SD.isa_tup, ↓SD.isa_lref, ↓SD.ite_tt, ↓SD.ite_ff, SD.add_1, SD.add_2, SD.add_3, SD.add_4, SD.sub_1, SD.sub_2, SD.mul_1, SD.mul_2, SD.fdiv_1, SD.mod_1, SD.pow_1, SD.neg_1, SD.tr_non, SD.tr_bl, SD.tr_int, SD.tr_str, SD.tr_tup, SD.tr_lref, SD.lt_1, SD.le_1, SD.is_1, SD.is_2, SD.is_3, SD.is_4, SD.is_5, SD.is_6, SD.is_7, SD.cmp_eq, SD.cmp_ne, SD.cmp_lt, SD.cmp_le, SD.cmp_gt, SD.cmp_ge, SD.cmp_is, SD.cmp_isnot, SD.cmp_in, SD.cmp_notin, SD.eqk_int, SD.eqk_bl, SD.ix_tup, SD.ix_lref, SD.len_tup, SD.len_lref, SD.len_str, SD.abs_int, SD.int_int, SD.int_bl, SD.tuple_tup, SD.tuple_lref, SD.list_tup, SD.list_lref, SD.witer_tup, SD.witer_lref, SD.wzip_tup, SD.wipe_nil, SD.wipe_cons, SD.tru_nil, SD.tru_bl, SD.dE, SD.pairs, SD.allD, SD.anyD, SD.atI_0, SD.atI_1, SD.atI_2, SD.atI_3, SD.isa_NoneType_int, SD.isa_NoneType_bool, SD.isa_NoneType_str, SD.isa_NoneType_tuple, SD.isa_NoneType_list, SD.isa_bool_int, SD.isa_bool_bool, SD.isa_bool_str, SD.isa_bool_tuple, SD.isa_bool_list, SD.isa_int_int, SD.isa_int_bool, SD.isa_int_str, SD.isa_int_tuple, SD.isa_int_list, SD.isa_str_int, SD.isa_str_bool, SD.isa_str_str, SD.isa_str_tuple, SD.isa_str_list, SD.isa_tuple_int, SD.isa_tuple_bool, SD.isa_tuple_str, SD.isa_tuple_tuple, SD.isa_tuple_list, SD.isa_list_int, SD.isa_list_bool, SD.isa_list_str, SD.isa_list_tuple, SD.isa_list_list, List.length_cons, List.length_nil, List.map_cons, List.map_nil, List.set_cons_zero, List.set_cons_succ, List.replicate_succ, List.replicate_zero, List.cons_append, List.nil_append, List.zipWith_cons_cons, List.zipWith_nil_left, Nat.add_sub_cancel, Nat.reduceAdd, Nat.reduceSub, Nat.zero_add, Nat.sub_self, and_true, true_and, reduceCtorEq, if_true, if_false, ite_true, ite_false, Bool.false_eq_true, Bool.not_true, Bool.not_false, decide_eq_true_eq, SD.forLoop, SD.compLoop, h1, ix_fr0, ix_fr1, sp_made])
  refine ⟨mulOk_of (u ha.1) (u hb.1), mulOk_of (u d1) (u d2), ⟨Int.mul_ne_zero (den_ne a) (den_ne b), up8 (sm1 (k := 0) d1 d2) (by decide)⟩, ?_⟩
  rw [rat_mul]
  exact trQ_self rfl h
theorem h__law_neg (T : Tab) : Meets sp_negated N__law_neg (t__law_neg T) := by
  refine q1_in fun a S E Q _ h => ?_
  unfold t__law_neg N__law_neg
  ((try simp only [SD.startD, List.length_cons, List.length_nil, List.map_cons, List.map_nil, List.replicate_succ, List.replicate_zero, List.cons_append, List.nil_append, Nat.reduceAdd, Nat.reduceSub, Nat.zero_add]); simp only [↓SD.ev_nil, ↓SD.ev_seq, ↓SD.ev_next, ↓SD.ev_break, ↓SD.ev_cont, ↓SD.ev_expr, ↓SD.ev_ret, ↓SD.ev_retN, ↓SD.ev_asg, ↓SD.ev_aug, ↓SD.ev_if, ↓SD.ev_for, ↓SD.ev_raise, ↓SD.ev_try, ↓SD.ev_var, ↓SD.ev_c, ↓SD.ev_glob, ↓SD.ev_tup, ↓SD.ev_lst, ↓SD.ev_bin, ↓SD.ev_un, ↓SD.ev_b1, ↓SD.ev_tE, ↓SD.ev_tNot, ↓SD.ev_tAnd, ↓SD.ev_tOr, ↓SD.ev_tYes, ↓SD.ev_not, ↓SD.ev_and, ↓SD.ev_or, ↓SD.ev_ifE, ↓SD.ev_cmp, ↓SD.ev_chain, ↓SD.ev_ix, ↓SD.ev_slice, ↓SD.ev_part1, ↓SD.ev_part0, ↓SD.ev_call, ↓SD.ev_callV, ↓SD.ev_app, ↓SD.ev_gVar, ↓SD.ev_gTup, ↓SD.ev_gIx, ↓SD.ev_iE, ↓SD.ev_iRange1, ↓SD.ev_iRange2, ↓SD.ev_iZip, ↓SD.ev_comp, ↓SD.ev_tupC, ↓SD.ev_allC, ↓SD.ev_anyC, ↓SD.ev_cComp, ↓SD.eList, ↓SD.gSeq, ↓SD.look_zero, ↓SD.look_succ, ↓SD.isa_non, ↓SD.isa_bl, ↓SD.isa_int, ↓SD.isa_str, ↓SD.isa_tup, ↓SD.isa_lref, ↓SD.ite_tt, ↓SD.ite_ff, SD.add_1, SD.add_2, SD.add_3, SD.add_4, SD.sub_1, SD.sub_2, SD.mul_1, SD.mul_2, SD.fdiv_1, SD.mod_1, SD.pow_1, SD.neg_1, SD.tr_non, SD.tr_bl, SD.tr_int, SD.tr_str, SD.tr_tup, SD.tr_lref, SD.lt_1, SD.le_1, SD.is_1, SD.is_2, SD.is_3, SD.is_4, SD.is_5, SD.is_6, SD.is_7, SD.cmp_eq, SD.cmp_ne, SD.cmp_lt, SD.cmp_le, SD.cmp_gt, SD.cmp_ge, SD.cmp_is, SD.cmp_isnot, SD.cmp_in, SD.cmp_notin, SD.eqk_int, SD.eqk_bl, SD.ix_tup, SD.ix_lref, SD.len_tup, SD.len_lref, SD.len_str, SD.abs_int, SD.int_int, SD.int_bl, SD.tuple_tup, SD.tuple_lref, SD.list_tup, SD.list_lref, SD.witer_tup, SD.witer_lref, SD.wzip_tup, SD.wipe_nil, SD.wipe_cons, SD.tru_nil, SD.tru_bl, SD.dE, SD.pairs, SD.allD, SD.anyD, SD.atI_0, SD.atI_1, SD.atI_2, SD.atI_3, SD.isa_NoneType_int, SD.isa_NoneType_bool, SD.isa_NoneType_str, SD.isa_NoneType_tuple, SD.isa_NoneType_list, SD.isa_bool_int, SD.isa_bool_bool, SD.isa_bool_str, SD.isa_bool_tuple, SD.isa_bool_list, SD.isa_int_int, SD.isa_int_bool, SD.isa_int_str, SD.isa_int_tuple, SD.isa_int_list, SD.isa_str_int, SD.isa_str_bool, SD.isa_str_str, SD.isa_str_tuple, SD.isa_str_list, SD.isa_tuple_int, SD.isa_tuple_bool, SD.isa_tuple_str, SD.isa_tuple_tuple, SD.isa_tuple_list, SD.isa_list_int, SD.isa_list_bool, SD.isa_list_str, SD.isa_list_tuple, SD.isa_list_list, List.length_cons, List.length_nil, List.map_cons, List.map_nil, List.set_cons_zero, List.set_cons_succ, List.replicate_succ, List.replicate_zero, List.cons_append, List.nil_append, List.zipWith_cons_cons, List.zipWith_nil_left, Nat.add_sub_cancel, Nat.reduceAdd, Nat.reduceSub, Nat.zero_add, Nat.sub_self, and_true, true_and, reduceCtorEq, if_true, if_false, ite_true, ite_false, Bool.false_eq_true, Bool.not_true, Bool.not_false, decide_eq_true_eq, SD.forLoop, SD.compLoop, ix_fr0, ix_fr1, fr_neg])
  exact trQ_self rfl h
theorem h__law_turned (T : Tab) (h1 : T.sp "_law_made" = some sp_made) : Meets sp_turned N__law_turned (t__law_turned T) := by
  refine q1_in fun a S E Q ⟨h0, ha⟩ h => ?_
  unfold t__law_turned N__law_turned
  unfold Sm at ha
  ((try simp only [SD.startD, List.length_cons, List.length_nil, List.map_cons, List.map_nil, List.replicate_succ, List.replicate_zero, List.cons_append, List.nil_append, Nat.reduceAdd, Nat.reduceSub, Nat.zero_add]); simp only [↓SD.ev_nil, ↓SD.ev_seq, ↓SD.ev_next, ↓SD.ev_break, ↓SD.ev_cont, ↓SD.ev_expr, ↓SD.ev_ret, ↓SD.ev_retN, ↓SD.ev_asg, ↓SD.ev_aug, ↓SD.ev_if, ↓SD.ev_for, ↓SD.ev_raise, ↓SD.ev_try, ↓SD.ev_var, ↓SD.ev_c, ↓SD.ev_glob, ↓SD.ev_tup, ↓SD.ev_lst, ↓SD.ev_bin, ↓SD.ev_un, ↓SD.ev_b1, ↓SD.ev_tE, ↓SD.ev_tNot, ↓SD.ev_tAnd, ↓SD.ev_tOr, ↓SD.ev_tYes, ↓SD.ev_not, ↓SD.ev_and, ↓SD.ev_or, ↓SD.ev_ifE, ↓SD.ev_cmp, ↓SD.ev_chain, ↓SD.ev_ix, ↓SD.ev_slice, ↓SD.ev_part1, ↓SD.ev_part0, ↓SD.ev_call, ↓SD.ev_callV, ↓SD.ev_app, ↓SD.ev_gVar, ↓SD.ev_gTup, ↓SD.ev_gIx, ↓SD.ev_iE, ↓SD.ev_iRange1, ↓SD.ev_iRange2, ↓SD.ev_iZip, ↓SD.ev_comp, ↓SD.ev_tupC, ↓SD.ev_allC, ↓SD.ev_anyC, ↓SD.ev_cComp, ↓SD.eList, ↓SD.gSeq, ↓SD.look_zero, ↓SD.look_succ, ↓SD.isa_non, ↓SD.isa_bl, ↓SD.isa_int, ↓SD.isa_str, ↓SD.isa_tup, ↓SD.isa_lref, ↓SD.ite_tt, ↓SD.ite_ff, SD.add_1, SD.add_2, SD.add_3, SD.add_4, SD.sub_1, SD.sub_2, SD.mul_1, SD.mul_2, SD.fdiv_1, SD.mod_1, SD.pow_1, SD.neg_1, SD.tr_non, SD.tr_bl, SD.tr_int, SD.tr_str, SD.tr_tup, SD.tr_lref, SD.lt_1, SD.le_1, SD.is_1, SD.is_2, SD.is_3, SD.is_4, SD.is_5, SD.is_6, SD.is_7, SD.cmp_eq, SD.cmp_ne, SD.cmp_lt, SD.cmp_le, SD.cmp_gt, SD.cmp_ge, SD.cmp_is, SD.cmp_isnot, SD.cmp_in, SD.cmp_notin, SD.eqk_int, SD.eqk_bl, SD.ix_tup, SD.ix_lref, SD.len_tup, SD.len_lref, SD.len_str, SD.abs_int, SD.int_int, SD.int_bl, SD.tuple_tup, SD.tuple_lref, SD.list_tup, SD.list_lref, SD.witer_tup, SD.witer_lref, SD.wzip_tup, SD.wipe_nil, SD.wipe_cons, SD.tru_nil, SD.tru_bl, SD.dE, SD.pairs, SD.allD, SD.anyD, SD.atI_0, SD.atI_1, SD.atI_2, SD.atI_3, SD.isa_NoneType_int, SD.isa_NoneType_bool, SD.isa_NoneType_str, SD.isa_NoneType_tuple, SD.isa_NoneType_list, SD.isa_bool_int, SD.isa_bool_bool, SD.isa_bool_str, SD.isa_bool_tuple, SD.isa_bool_list, SD.isa_int_int, SD.isa_int_bool, SD.isa_int_str, SD.isa_int_tuple, SD.isa_int_list, SD.isa_str_int, SD.isa_str_bool, SD.isa_str_str, SD.isa_str_tuple, SD.isa_str_list, SD.isa_tuple_int, SD.isa_tuple_bool, SD.isa_tuple_str, SD.isa_tuple_tuple, SD.isa_tuple_list, SD.isa_list_int, SD.isa_list_bool, SD.isa_list_str, SD.isa_list_tuple, SD.isa_list_list, List.length_cons, List.length_nil, List.map_cons, List.map_nil, List.set_cons_zero, List.set_cons_succ, List.replicate_succ, List.replicate_zero, List.cons_append, List.nil_append, List.zipWith_cons_cons, List.zipWith_nil_left, Nat.add_sub_cancel, Nat.reduceAdd, Nat.reduceSub, Nat.zero_add, Nat.sub_self, and_true, true_and, reduceCtorEq, if_true, if_false, ite_true, ite_false, Bool.false_eq_true, Bool.not_true, Bool.not_false, decide_eq_true_eq, SD.forLoop, SD.compLoop, h1, ix_fr0, ix_fr1, sp_made])
  refine ⟨⟨fun z => h0 (Rat.num_eq_zero.mp z), up8 ha.1 (by decide)⟩, ?_⟩
  rw [rat_inv]
  exact trQ_self rfl h
theorem h__law_less (T : Tab) : Meets (spQ2 (fun a b => Sm a ∧ Sm b) fun a b => .bl (decide (a < b))) N__law_less (t__law_less T) := by
  refine q2_in fun a b S E Q ⟨ha, hb⟩ h => ?_
  unfold t__law_less N__law_less
  unfold Sm at ha hb
  have d1 : (a.den : Int).natAbs < 2 ^ 3900 := by rw [den_nat]; exact ha.2
  have d2 : (b.den : Int).natAbs < 2 ^ 3900 := by rw [den_nat]; exact hb.2
  have u : ∀ {n : Nat}, n < 2 ^ 3900 → n < 2 ^ 8000 := fun h => up8 h (by decide)
  ((try simp only [SD.startD, List.length_cons, List.length_nil, List.map_cons, List.map_nil, List.replicate_succ, List.replicate_zero, List.cons_append, List.nil_append, Nat.reduceAdd, Nat.reduceSub, Nat.zero_add]); simp only [↓SD.ev_nil, ↓SD.ev_seq, ↓SD.ev_next, ↓SD.ev_break, ↓SD.ev_cont, ↓SD.ev_expr, ↓SD.ev_ret, ↓SD.ev_retN, ↓SD.ev_asg, ↓SD.ev_aug, ↓SD.ev_if, ↓SD.ev_for, ↓SD.ev_raise, ↓SD.ev_try, ↓SD.ev_var, ↓SD.ev_c, ↓SD.ev_glob, ↓SD.ev_tup, ↓SD.ev_lst, ↓SD.ev_bin, ↓SD.ev_un, ↓SD.ev_b1, ↓SD.ev_tE, ↓SD.ev_tNot, ↓SD.ev_tAnd, ↓SD.ev_tOr, ↓SD.ev_tYes, ↓SD.ev_not, ↓SD.ev_and, ↓SD.ev_or, ↓SD.ev_ifE, ↓SD.ev_cmp, ↓SD.ev_chain, ↓SD.ev_ix, ↓SD.ev_slice, ↓SD.ev_part1, ↓SD.ev_part0, ↓SD.ev_call, ↓SD.ev_callV, ↓SD.ev_app, ↓SD.ev_gVar, ↓SD.ev_gTup, ↓SD.ev_gIx, ↓SD.ev_iE, ↓SD.ev_iRange1, ↓SD.ev_iRange2, ↓SD.ev_iZip, ↓SD.ev_comp, ↓SD.ev_tupC, ↓SD.ev_allC, ↓SD.ev_anyC, ↓SD.ev_cComp, ↓SD.eList, ↓SD.gSeq, ↓SD.look_zero, ↓SD.look_succ, ↓SD.isa_non, ↓SD.isa_bl, ↓SD.isa_int, ↓SD.isa_str, ↓SD.isa_tup, ↓SD.isa_lref, ↓SD.ite_tt, ↓SD.ite_ff, SD.add_1, SD.add_2, SD.add_3, SD.add_4, SD.sub_1, SD.sub_2, SD.mul_1, SD.mul_2, SD.fdiv_1, SD.mod_1, SD.pow_1, SD.neg_1, SD.tr_non, SD.tr_bl, SD.tr_int, SD.tr_str, SD.tr_tup, SD.tr_lref, SD.lt_1, SD.le_1, SD.is_1, SD.is_2, SD.is_3, SD.is_4, SD.is_5, SD.is_6, SD.is_7, SD.cmp_eq, SD.cmp_ne, SD.cmp_lt, SD.cmp_le, SD.cmp_gt, SD.cmp_ge, SD.cmp_is, SD.cmp_isnot, SD.cmp_in, SD.cmp_notin, SD.eqk_int, SD.eqk_bl, SD.ix_tup, SD.ix_lref, SD.len_tup, SD.len_lref, SD.len_str, SD.abs_int, SD.int_int, SD.int_bl, SD.tuple_tup, SD.tuple_lref, SD.list_tup, SD.list_lref, SD.witer_tup, SD.witer_lref, SD.wzip_tup, SD.wipe_nil, SD.wipe_cons, SD.tru_nil, SD.tru_bl, SD.dE, SD.pairs, SD.allD, SD.anyD, SD.atI_0, SD.atI_1, SD.atI_2, SD.atI_3, SD.isa_NoneType_int, SD.isa_NoneType_bool, SD.isa_NoneType_str, SD.isa_NoneType_tuple, SD.isa_NoneType_list, SD.isa_bool_int, SD.isa_bool_bool, SD.isa_bool_str, SD.isa_bool_tuple, SD.isa_bool_list, SD.isa_int_int, SD.isa_int_bool, SD.isa_int_str, SD.isa_int_tuple, SD.isa_int_list, SD.isa_str_int, SD.isa_str_bool, SD.isa_str_str, SD.isa_str_tuple, SD.isa_str_list, SD.isa_tuple_int, SD.isa_tuple_bool, SD.isa_tuple_str, SD.isa_tuple_tuple, SD.isa_tuple_list, SD.isa_list_int, SD.isa_list_bool, SD.isa_list_str, SD.isa_list_tuple, SD.isa_list_list, List.length_cons, List.length_nil, List.map_cons, List.map_nil, List.set_cons_zero, List.set_cons_succ, List.replicate_succ, List.replicate_zero, List.cons_append, List.nil_append, List.zipWith_cons_cons, List.zipWith_nil_left, Nat.add_sub_cancel, Nat.reduceAdd, Nat.reduceSub, Nat.zero_add, Nat.sub_self, and_true, true_and, reduceCtorEq, if_true, if_false, ite_true, ite_false, Bool.false_eq_true, Bool.not_true, Bool.not_false, decide_eq_true_eq, SD.forLoop, SD.compLoop, ix_fr0, ix_fr1])
  refine ⟨mulOk_of (u ha.1) (u d2), mulOk_of (u hb.1) (u d1), ?_⟩
  have e : decide (a.num * (b.den : Int) < b.num * (a.den : Int)) = decide (a < b) := by
    have := Rat.lt_iff a b
    by_cases c : a < b
    · rw [decide_eq_true c, decide_eq_true (this.mp c)]
    · rw [decide_eq_false c, decide_eq_false (fun z => c (this.mpr z))]
  rw [e]
  exact trQ_self rfl h
end SP

-- SQb
set_option Elab.async false
set_option linter.all false
set_option maxRecDepth 100000
set_option maxHeartbeats 1000000
namespace SP
open PySem L2 SD SL
/-! ### the laws' own ways -/
theorem h__law_sum (T : Tab) (h1 : T.sp "_law_add" = some sp_added) : Meets sp_sum_of N__law_sum (t__law_sum T) := by
  rintro ds S E Q hl ⟨v, w, rfl, ⟨hv, hw⟩, h⟩
  unfold t__law_sum N__law_sum
  ((try simp only [SD.startD, List.length_cons, List.length_nil, List.map_cons, List.map_nil, List.replicate_succ, List.replicate_zero, List.cons_append, List.nil_append, Nat.reduceAdd, Nat.reduceSub, Nat.zero_add]); simp only [↓SD.ev_nil, ↓SD.ev_seq, ↓SD.ev_next, ↓SD.ev_break, ↓SD.ev_cont, ↓SD.ev_expr, ↓SD.ev_ret, ↓SD.ev_retN, ↓SD.ev_asg, ↓SD.ev_aug, ↓SD.ev_if, ↓SD.ev_for, ↓SD.ev_raise, ↓SD.ev_try, ↓SD.ev_var, ↓SD.ev_c, ↓SD.ev_glob, ↓SD.ev_tup, ↓SD.ev_lst, ↓SD.ev_bin, ↓SD.ev_un, ↓SD.ev_b1, ↓SD.ev_tE, ↓SD.ev_tNot, ↓SD.ev_tAnd, ↓SD.ev_tOr, ↓SD.ev_tYes, ↓SD.ev_not, ↓SD.ev_and, ↓SD.ev_or, ↓SD.ev_ifE, ↓SD.ev_cmp, ↓SD.ev_chain, ↓SD.ev_ix, ↓SD.ev_slice, ↓SD.ev_part1, ↓SD.ev_part0, ↓SD.ev_call, ↓SD.ev_callV, ↓SD.ev_app, ↓SD.ev_gVar, ↓SD.ev_gTup, ↓SD.ev_gIx, ↓SD.ev_iE, ↓SD.ev_iRange1, ↓SD.ev_iRange2, ↓SD.ev_iZip, ↓SD.ev_comp, ↓SD.ev_tupC, ↓SD.ev_allC, ↓SD.ev_anyC, ↓SD.ev_cComp, ↓SD.eList, ↓SD.gSeq, ↓SD.look_zero, ↓SD.look_succ, ↓SD.isa_non, ↓SD.isa_bl, ↓SD.isa_int, ↓SD.isa_str, ↓SD.isa_tup, ↓SD.isa_lref, ↓SD.ite_tt, ↓SD.ite_ff, SD.add_1, SD.add_2, SD.add_3, SD.add_4, SD.sub_1, SD.sub_2, SD.mul_1, SD.mul_2, SD.fdiv_1, SD.mod_1, SD.pow_1, SD.neg_1, SD.tr_non, SD.tr_bl, SD.tr_int, SD.tr_str, SD.tr_tup, SD.tr_lref, SD.lt_1, SD.le_1, SD.is_1, SD.is_2, SD.is_3, SD.is_4, SD.is_5, SD.is_6, SD.is_7, SD.cmp_eq, SD.cmp_ne, SD.cmp_lt, SD.cmp_le, SD.cmp_gt, SD.cmp_ge, SD.cmp_is, SD.cmp_isnot, SD.cmp_in, SD.cmp_notin, SD.eqk_int, SD.eqk_bl, SD.ix_tup, SD.ix_lref, SD.len_tup, SD.len_lref, SD.len_str, SD.abs_int, SD.int_int, SD.int_bl, SD.tuple_tup, SD.tuple_lref, SD.list_tup, SD.list_lref, SD.witer_tup, SD.witer_lref, SD.wzip_tup, SD.wipe_nil, SD.wipe_cons, SD.tru_nil, SD.tru_bl, SD.dE, SD.pairs, SD.allD, SD.anyD, SD.atI_0, SD.atI_1, SD.atI_2, SD.atI_3, SD.isa_NoneType_int, SD.isa_NoneType_bool, SD.isa_NoneType_str, SD.isa_NoneType_tuple, SD.isa_NoneType_list, SD.isa_bool_int, SD.isa_bool_bool, SD.isa_bool_str, SD.isa_bool_tuple, SD.isa_bool_list, SD.isa_int_int, SD.isa_int_bool, SD.isa_int_str, SD.isa_int_tuple, SD.isa_int_list, SD.isa_str_int, SD.isa_str_bool, SD.isa_str_str, SD.isa_str_tuple, SD.isa_str_list, SD.isa_tuple_int, SD.isa_tuple_bool, SD.isa_tuple_str, SD.isa_tuple_tuple, SD.isa_tuple_list, SD.isa_list_int, SD.isa_list_bool, SD.isa_list_str, SD.isa_list_tuple, SD.isa_list_list, List.length_cons, List.length_nil, List.map_cons, List.map_nil, List.set_cons_zero, List.set_cons_succ, List.replicate_succ, List.replicate_zero, List.cons_append, List.nil_append, List.zipWith_cons_cons, List.zipWith_nil_left, Nat.add_sub_cancel, Nat.reduceAdd, Nat.reduceSub, Nat.zero_add, Nat.sub_self, and_true, true_and, reduceCtorEq, if_true, if_false, ite_true, ite_false, Bool.false_eq_true, Bool.not_true, Bool.not_false, decide_eq_true_eq, SD.forLoop, SD.compLoop, h1, sp_added, spQ2_n, spQ2_fr, wy_mk, range3, ix_wy0, ix_wy1, ix_wy2])
  walk_at "sides"
  exact trQ_self rfl h
theorem h__law_gap (T : Tab) (h1 : T.sp "_law_add" = some sp_added) (h2 : T.sp "_law_neg" = some sp_negated) : Meets sp_less N__law_gap (t__law_gap T) := by
  rintro ds S E Q hl ⟨v, w, rfl, ⟨hv, hw⟩, h⟩
  unfold t__law_gap N__law_gap
  ((try simp only [SD.startD, List.length_cons, List.length_nil, List.map_cons, List.map_nil, List.replicate_succ, List.replicate_zero, List.cons_append, List.nil_append, Nat.reduceAdd, Nat.reduceSub, Nat.zero_add]); simp only [↓SD.ev_nil, ↓SD.ev_seq, ↓SD.ev_next, ↓SD.ev_break, ↓SD.ev_cont, ↓SD.ev_expr, ↓SD.ev_ret, ↓SD.ev_retN, ↓SD.ev_asg, ↓SD.ev_aug, ↓SD.ev_if, ↓SD.ev_for, ↓SD.ev_raise, ↓SD.ev_try, ↓SD.ev_var, ↓SD.ev_c, ↓SD.ev_glob, ↓SD.ev_tup, ↓SD.ev_lst, ↓SD.ev_bin, ↓SD.ev_un, ↓SD.ev_b1, ↓SD.ev_tE, ↓SD.ev_tNot, ↓SD.ev_tAnd, ↓SD.ev_tOr, ↓SD.ev_tYes, ↓SD.ev_not, ↓SD.ev_and, ↓SD.ev_or, ↓SD.ev_ifE, ↓SD.ev_cmp, ↓SD.ev_chain, ↓SD.ev_ix, ↓SD.ev_slice, ↓SD.ev_part1, ↓SD.ev_part0, ↓SD.ev_call, ↓SD.ev_callV, ↓SD.ev_app, ↓SD.ev_gVar, ↓SD.ev_gTup, ↓SD.ev_gIx, ↓SD.ev_iE, ↓SD.ev_iRange1, ↓SD.ev_iRange2, ↓SD.ev_iZip, ↓SD.ev_comp, ↓SD.ev_tupC, ↓SD.ev_allC, ↓SD.ev_anyC, ↓SD.ev_cComp, ↓SD.eList, ↓SD.gSeq, ↓SD.look_zero, ↓SD.look_succ, ↓SD.isa_non, ↓SD.isa_bl, ↓SD.isa_int, ↓SD.isa_str, ↓SD.isa_tup, ↓SD.isa_lref, ↓SD.ite_tt, ↓SD.ite_ff, SD.add_1, SD.add_2, SD.add_3, SD.add_4, SD.sub_1, SD.sub_2, SD.mul_1, SD.mul_2, SD.fdiv_1, SD.mod_1, SD.pow_1, SD.neg_1, SD.tr_non, SD.tr_bl, SD.tr_int, SD.tr_str, SD.tr_tup, SD.tr_lref, SD.lt_1, SD.le_1, SD.is_1, SD.is_2, SD.is_3, SD.is_4, SD.is_5, SD.is_6, SD.is_7, SD.cmp_eq, SD.cmp_ne, SD.cmp_lt, SD.cmp_le, SD.cmp_gt, SD.cmp_ge, SD.cmp_is, SD.cmp_isnot, SD.cmp_in, SD.cmp_notin, SD.eqk_int, SD.eqk_bl, SD.ix_tup, SD.ix_lref, SD.len_tup, SD.len_lref, SD.len_str, SD.abs_int, SD.int_int, SD.int_bl, SD.tuple_tup, SD.tuple_lref, SD.list_tup, SD.list_lref, SD.witer_tup, SD.witer_lref, SD.wzip_tup, SD.wipe_nil, SD.wipe_cons, SD.tru_nil, SD.tru_bl, SD.dE, SD.pairs, SD.allD, SD.anyD, SD.atI_0, SD.atI_1, SD.atI_2, SD.atI_3, SD.isa_NoneType_int, SD.isa_NoneType_bool, SD.isa_NoneType_str, SD.isa_NoneType_tuple, SD.isa_NoneType_list, SD.isa_bool_int, SD.isa_bool_bool, SD.isa_bool_str, SD.isa_bool_tuple, SD.isa_bool_list, SD.isa_int_int, SD.isa_int_bool, SD.isa_int_str, SD.isa_int_tuple, SD.isa_int_list, SD.isa_str_int, SD.isa_str_bool, SD.isa_str_str, SD.isa_str_tuple, SD.isa_str_list, SD.isa_tuple_int, SD.isa_tuple_bool, SD.isa_tuple_str, SD.isa_tuple_tuple, SD.isa_tuple_list, SD.isa_list_int, SD.isa_list_bool, SD.isa_list_str, SD.isa_list_tuple, SD.isa_list_list, List.length_cons, List.length_nil, List.map_cons, List.map_nil, List.set_cons_zero, List.set_cons_succ, List.replicate_succ, List.replicate_zero, List.cons_append, List.nil_append, List.zipWith_cons_cons, List.zipWith_nil_left, Nat.add_sub_cancel, Nat.reduceAdd, Nat.reduceSub, Nat.zero_add, Nat.sub_self, and_true, true_and, reduceCtorEq, if_true, if_false, ite_true, ite_false, Bool.false_eq_true, Bool.not_true, Bool.not_false, decide_eq_true_eq, SD.forLoop, SD.compLoop, h1, h2, sp_added, sp_negated, spQ2_n, spQ1_n, spQ2_fr, spQ1_fr, wy_mk, range3, ix_wy0, ix_wy1, ix_wy2])
  walk_at "sides"
  exact trQ_self rfl h
theorem h__law_times (T : Tab) (h1 : T.sp "_law_mul" = some sp_multiplied) : Meets sp_scaled N__law_times (t__law_times T) := by
  rintro ds S E Q hl ⟨v, q, rfl, ⟨hv, hq⟩, h⟩
  unfold t__law_times N__law_times
  ((try simp only [SD.startD, List.length_cons, List.length_nil, List.map_cons, List.map_nil, List.replicate_succ, List.replicate_zero, List.cons_append, List.nil_append, Nat.reduceAdd, Nat.reduceSub, Nat.zero_add]); simp only [↓SD.ev_nil, ↓SD.ev_seq, ↓SD.ev_next, ↓SD.ev_break, ↓SD.ev_cont, ↓SD.ev_expr, ↓SD.ev_ret, ↓SD.ev_retN, ↓SD.ev_asg, ↓SD.ev_aug, ↓SD.ev_if, ↓SD.ev_for, ↓SD.ev_raise, ↓SD.ev_try, ↓SD.ev_var, ↓SD.ev_c, ↓SD.ev_glob, ↓SD.ev_tup, ↓SD.ev_lst, ↓SD.ev_bin, ↓SD.ev_un, ↓SD.ev_b1, ↓SD.ev_tE, ↓SD.ev_tNot, ↓SD.ev_tAnd, ↓SD.ev_tOr, ↓SD.ev_tYes, ↓SD.ev_not, ↓SD.ev_and, ↓SD.ev_or, ↓SD.ev_ifE, ↓SD.ev_cmp, ↓SD.ev_chain, ↓SD.ev_ix, ↓SD.ev_slice, ↓SD.ev_part1, ↓SD.ev_part0, ↓SD.ev_call, ↓SD.ev_callV, ↓SD.ev_app, ↓SD.ev_gVar, ↓SD.ev_gTup, ↓SD.ev_gIx, ↓SD.ev_iE, ↓SD.ev_iRange1, ↓SD.ev_iRange2, ↓SD.ev_iZip, ↓SD.ev_comp, ↓SD.ev_tupC, ↓SD.ev_allC, ↓SD.ev_anyC, ↓SD.ev_cComp, ↓SD.eList, ↓SD.gSeq, ↓SD.look_zero, ↓SD.look_succ, ↓SD.isa_non, ↓SD.isa_bl, ↓SD.isa_int, ↓SD.isa_str, ↓SD.isa_tup, ↓SD.isa_lref, ↓SD.ite_tt, ↓SD.ite_ff, SD.add_1, SD.add_2, SD.add_3, SD.add_4, SD.sub_1, SD.sub_2, SD.mul_1, SD.mul_2, SD.fdiv_1, SD.mod_1, SD.pow_1, SD.neg_1, SD.tr_non, SD.tr_bl, SD.tr_int, SD.tr_str, SD.tr_tup, SD.tr_lref, SD.lt_1, SD.le_1, SD.is_1, SD.is_2, SD.is_3, SD.is_4, SD.is_5, SD.is_6, SD.is_7, SD.cmp_eq, SD.cmp_ne, SD.cmp_lt, SD.cmp_le, SD.cmp_gt, SD.cmp_ge, SD.cmp_is, SD.cmp_isnot, SD.cmp_in, SD.cmp_notin, SD.eqk_int, SD.eqk_bl, SD.ix_tup, SD.ix_lref, SD.len_tup, SD.len_lref, SD.len_str, SD.abs_int, SD.int_int, SD.int_bl, SD.tuple_tup, SD.tuple_lref, SD.list_tup, SD.list_lref, SD.witer_tup, SD.witer_lref, SD.wzip_tup, SD.wipe_nil, SD.wipe_cons, SD.tru_nil, SD.tru_bl, SD.dE, SD.pairs, SD.allD, SD.anyD, SD.atI_0, SD.atI_1, SD.atI_2, SD.atI_3, SD.isa_NoneType_int, SD.isa_NoneType_bool, SD.isa_NoneType_str, SD.isa_NoneType_tuple, SD.isa_NoneType_list, SD.isa_bool_int, SD.isa_bool_bool, SD.isa_bool_str, SD.isa_bool_tuple, SD.isa_bool_list, SD.isa_int_int, SD.isa_int_bool, SD.isa_int_str, SD.isa_int_tuple, SD.isa_int_list, SD.isa_str_int, SD.isa_str_bool, SD.isa_str_str, SD.isa_str_tuple, SD.isa_str_list, SD.isa_tuple_int, SD.isa_tuple_bool, SD.isa_tuple_str, SD.isa_tuple_tuple, SD.isa_tuple_list, SD.isa_list_int, SD.isa_list_bool, SD.isa_list_str, SD.isa_list_tuple, SD.isa_list_list, List.length_cons, List.length_nil, List.map_cons, List.map_nil, List.set_cons_zero, List.set_cons_succ, List.replicate_succ, List.replicate_zero, List.cons_append, List.nil_append, List.zipWith_cons_cons, List.zipWith_nil_left, Nat.add_sub_cancel, Nat.reduceAdd, Nat.reduceSub, Nat.zero_add, Nat.sub_self, and_true, true_and, reduceCtorEq, if_true, if_false, ite_true, ite_false, Bool.false_eq_true, Bool.not_true, Bool.not_false, decide_eq_true_eq, SD.forLoop, SD.compLoop, h1, sp_multiplied, spQ2_n, spQ2_fr, wy_mk, it_wy])
  walk_at "sides"
  exact trQ_self rfl h
theorem h__law_dot (T : Tab) (h1 : T.sp "_law_add" = some sp_added) (h2 : T.sp "_law_mul" = some sp_multiplied) : Meets sp_dot N__law_dot (t__law_dot T) := by
  rintro ds S E Q hl ⟨v, w, rfl, ⟨j, k, hv, hw, hjk⟩, h⟩
  unfold t__law_dot N__law_dot
  ((try simp only [SD.startD, List.length_cons, List.length_nil, List.map_cons, List.map_nil, List.replicate_succ, List.replicate_zero, List.cons_append, List.nil_append, Nat.reduceAdd, Nat.reduceSub, Nat.zero_add]); simp only [↓SD.ev_nil, ↓SD.ev_seq, ↓SD.ev_next, ↓SD.ev_break, ↓SD.ev_cont, ↓SD.ev_expr, ↓SD.ev_ret, ↓SD.ev_retN, ↓SD.ev_asg, ↓SD.ev_aug, ↓SD.ev_if, ↓SD.ev_for, ↓SD.ev_raise, ↓SD.ev_try, ↓SD.ev_var, ↓SD.ev_c, ↓SD.ev_glob, ↓SD.ev_tup, ↓SD.ev_lst, ↓SD.ev_bin, ↓SD.ev_un, ↓SD.ev_b1, ↓SD.ev_tE, ↓SD.ev_tNot, ↓SD.ev_tAnd, ↓SD.ev_tOr, ↓SD.ev_tYes, ↓SD.ev_not, ↓SD.ev_and, ↓SD.ev_or, ↓SD.ev_ifE, ↓SD.ev_cmp, ↓SD.ev_chain, ↓SD.ev_ix, ↓SD.ev_slice, ↓SD.ev_part1, ↓SD.ev_part0, ↓SD.ev_call, ↓SD.ev_callV, ↓SD.ev_app, ↓SD.ev_gVar, ↓SD.ev_gTup, ↓SD.ev_gIx, ↓SD.ev_iE, ↓SD.ev_iRange1, ↓SD.ev_iRange2, ↓SD.ev_iZip, ↓SD.ev_comp, ↓SD.ev_tupC, ↓SD.ev_allC, ↓SD.ev_anyC, ↓SD.ev_cComp, ↓SD.eList, ↓SD.gSeq, ↓SD.look_zero, ↓SD.look_succ, ↓SD.isa_non, ↓SD.isa_bl, ↓SD.isa_int, ↓SD.isa_str, ↓SD.isa_tup, ↓SD.isa_lref, ↓SD.ite_tt, ↓SD.ite_ff, SD.add_1, SD.add_2, SD.add_3, SD.add_4, SD.sub_1, SD.sub_2, SD.mul_1, SD.mul_2, SD.fdiv_1, SD.mod_1, SD.pow_1, SD.neg_1, SD.tr_non, SD.tr_bl, SD.tr_int, SD.tr_str, SD.tr_tup, SD.tr_lref, SD.lt_1, SD.le_1, SD.is_1, SD.is_2, SD.is_3, SD.is_4, SD.is_5, SD.is_6, SD.is_7, SD.cmp_eq, SD.cmp_ne, SD.cmp_lt, SD.cmp_le, SD.cmp_gt, SD.cmp_ge, SD.cmp_is, SD.cmp_isnot, SD.cmp_in, SD.cmp_notin, SD.eqk_int, SD.eqk_bl, SD.ix_tup, SD.ix_lref, SD.len_tup, SD.len_lref, SD.len_str, SD.abs_int, SD.int_int, SD.int_bl, SD.tuple_tup, SD.tuple_lref, SD.list_tup, SD.list_lref, SD.witer_tup, SD.witer_lref, SD.wzip_tup, SD.wipe_nil, SD.wipe_cons, SD.tru_nil, SD.tru_bl, SD.dE, SD.pairs, SD.allD, SD.anyD, SD.atI_0, SD.atI_1, SD.atI_2, SD.atI_3, SD.isa_NoneType_int, SD.isa_NoneType_bool, SD.isa_NoneType_str, SD.isa_NoneType_tuple, SD.isa_NoneType_list, SD.isa_bool_int, SD.isa_bool_bool, SD.isa_bool_str, SD.isa_bool_tuple, SD.isa_bool_list, SD.isa_int_int, SD.isa_int_bool, SD.isa_int_str, SD.isa_int_tuple, SD.isa_int_list, SD.isa_str_int, SD.isa_str_bool, SD.isa_str_str, SD.isa_str_tuple, SD.isa_str_list, SD.isa_tuple_int, SD.isa_tuple_bool, SD.isa_tuple_str, SD.isa_tuple_tuple, SD.isa_tuple_list, SD.isa_list_int, SD.isa_list_bool, SD.isa_list_str, SD.isa_list_tuple, SD.isa_list_list, List.length_cons, List.length_nil, List.map_cons, List.map_nil, List.set_cons_zero, List.set_cons_succ, List.replicate_succ, List.replicate_zero, List.cons_append, List.nil_append, List.zipWith_cons_cons, List.zipWith_nil_left, Nat.add_sub_cancel, Nat.reduceAdd, Nat.reduceSub, Nat.zero_add, Nat.sub_self, and_true, true_and, reduceCtorEq, if_true, if_false, ite_true, ite_false, Bool.false_eq_true, Bool.not_true, Bool.not_false, decide_eq_true_eq, SD.forLoop, SD.compLoop, h1, h2, sp_added, sp_multiplied, spQ2_n, spQ2_fr, ix_wy0, ix_wy1, ix_wy2])
  walk_at "sides"
  exact trQ_self rfl h
theorem h__law_box (T : Tab) (h1 : T.sp "_law_dot" = some sp_dot) (h2 : T.sp "_law_cross" = some sp_cross) : Meets sp_box N__law_box (t__law_box T) := by
  rintro ds S E Q hl ⟨u, v, w, rfl, ⟨h3, h4⟩, h⟩
  unfold t__law_box N__law_box
  ((try simp only [SD.startD, List.length_cons, List.length_nil, List.map_cons, List.map_nil, List.replicate_succ, List.replicate_zero, List.cons_append, List.nil_append, Nat.reduceAdd, Nat.reduceSub, Nat.zero_add]); simp only [↓SD.ev_nil, ↓SD.ev_seq, ↓SD.ev_next, ↓SD.ev_break, ↓SD.ev_cont, ↓SD.ev_expr, ↓SD.ev_ret, ↓SD.ev_retN, ↓SD.ev_asg, ↓SD.ev_aug, ↓SD.ev_if, ↓SD.ev_for, ↓SD.ev_raise, ↓SD.ev_try, ↓SD.ev_var, ↓SD.ev_c, ↓SD.ev_glob, ↓SD.ev_tup, ↓SD.ev_lst, ↓SD.ev_bin, ↓SD.ev_un, ↓SD.ev_b1, ↓SD.ev_tE, ↓SD.ev_tNot, ↓SD.ev_tAnd, ↓SD.ev_tOr, ↓SD.ev_tYes, ↓SD.ev_not, ↓SD.ev_and, ↓SD.ev_or, ↓SD.ev_ifE, ↓SD.ev_cmp, ↓SD.ev_chain, ↓SD.ev_ix, ↓SD.ev_slice, ↓SD.ev_part1, ↓SD.ev_part0, ↓SD.ev_call, ↓SD.ev_callV, ↓SD.ev_app, ↓SD.ev_gVar, ↓SD.ev_gTup, ↓SD.ev_gIx, ↓SD.ev_iE, ↓SD.ev_iRange1, ↓SD.ev_iRange2, ↓SD.ev_iZip, ↓SD.ev_comp, ↓SD.ev_tupC, ↓SD.ev_allC, ↓SD.ev_anyC, ↓SD.ev_cComp, ↓SD.eList, ↓SD.gSeq, ↓SD.look_zero, ↓SD.look_succ, ↓SD.isa_non, ↓SD.isa_bl, ↓SD.isa_int, ↓SD.isa_str, ↓SD.isa_tup, ↓SD.isa_lref, ↓SD.ite_tt, ↓SD.ite_ff, SD.add_1, SD.add_2, SD.add_3, SD.add_4, SD.sub_1, SD.sub_2, SD.mul_1, SD.mul_2, SD.fdiv_1, SD.mod_1, SD.pow_1, SD.neg_1, SD.tr_non, SD.tr_bl, SD.tr_int, SD.tr_str, SD.tr_tup, SD.tr_lref, SD.lt_1, SD.le_1, SD.is_1, SD.is_2, SD.is_3, SD.is_4, SD.is_5, SD.is_6, SD.is_7, SD.cmp_eq, SD.cmp_ne, SD.cmp_lt, SD.cmp_le, SD.cmp_gt, SD.cmp_ge, SD.cmp_is, SD.cmp_isnot, SD.cmp_in, SD.cmp_notin, SD.eqk_int, SD.eqk_bl, SD.ix_tup, SD.ix_lref, SD.len_tup, SD.len_lref, SD.len_str, SD.abs_int, SD.int_int, SD.int_bl, SD.tuple_tup, SD.tuple_lref, SD.list_tup, SD.list_lref, SD.witer_tup, SD.witer_lref, SD.wzip_tup, SD.wipe_nil, SD.wipe_cons, SD.tru_nil, SD.tru_bl, SD.dE, SD.pairs, SD.allD, SD.anyD, SD.atI_0, SD.atI_1, SD.atI_2, SD.atI_3, SD.isa_NoneType_int, SD.isa_NoneType_bool, SD.isa_NoneType_str, SD.isa_NoneType_tuple, SD.isa_NoneType_list, SD.isa_bool_int, SD.isa_bool_bool, SD.isa_bool_str, SD.isa_bool_tuple, SD.isa_bool_list, SD.isa_int_int, SD.isa_int_bool, SD.isa_int_str, SD.isa_int_tuple, SD.isa_int_list, SD.isa_str_int, SD.isa_str_bool, SD.isa_str_str, SD.isa_str_tuple, SD.isa_str_list, SD.isa_tuple_int, SD.isa_tuple_bool, SD.isa_tuple_str, SD.isa_tuple_tuple, SD.isa_tuple_list, SD.isa_list_int, SD.isa_list_bool, SD.isa_list_str, SD.isa_list_tuple, SD.isa_list_list, List.length_cons, List.length_nil, List.map_cons, List.map_nil, List.set_cons_zero, List.set_cons_succ, List.replicate_succ, List.replicate_zero, List.cons_append, List.nil_append, List.zipWith_cons_cons, List.zipWith_nil_left, Nat.add_sub_cancel, Nat.reduceAdd, Nat.reduceSub, Nat.zero_add, Nat.sub_self, and_true, true_and, reduceCtorEq, if_true, if_false, ite_true, ite_false, Bool.false_eq_true, Bool.not_true, Bool.not_false, decide_eq_true_eq, SD.forLoop, SD.compLoop, h1, h2, sp_dot, sp_cross, spW2_wy, w_n2])
  walk_at "sides"
  exact trQ_self rfl h
theorem h__law_is_none (T : Tab) : Meets (spW1 (fun _ => True) fun v => .bl (decide (v = .zero))) N__law_is_none (t__law_is_none T) := by
  rintro ds S E Q hl ⟨v, rfl, _, h⟩
  unfold t__law_is_none N__law_is_none
  have e : wy ⟨((0 : Int) : Rat), ((0 : Int) : Rat), ((0 : Int) : Rat)⟩ = wy .zero := by rw [Rat.intCast_zero]; rfl
  ((try simp only [SD.startD, List.length_cons, List.length_nil, List.map_cons, List.map_nil, List.replicate_succ, List.replicate_zero, List.cons_append, List.nil_append, Nat.reduceAdd, Nat.reduceSub, Nat.zero_add]); simp only [↓SD.ev_nil, ↓SD.ev_seq, ↓SD.ev_next, ↓SD.ev_break, ↓SD.ev_cont, ↓SD.ev_expr, ↓SD.ev_ret, ↓SD.ev_retN, ↓SD.ev_asg, ↓SD.ev_aug, ↓SD.ev_if, ↓SD.ev_for, ↓SD.ev_raise, ↓SD.ev_try, ↓SD.ev_var, ↓SD.ev_c, ↓SD.ev_glob, ↓SD.ev_tup, ↓SD.ev_lst, ↓SD.ev_bin, ↓SD.ev_un, ↓SD.ev_b1, ↓SD.ev_tE, ↓SD.ev_tNot, ↓SD.ev_tAnd, ↓SD.ev_tOr, ↓SD.ev_tYes, ↓SD.ev_not, ↓SD.ev_and, ↓SD.ev_or, ↓SD.ev_ifE, ↓SD.ev_cmp, ↓SD.ev_chain, ↓SD.ev_ix, ↓SD.ev_slice, ↓SD.ev_part1, ↓SD.ev_part0, ↓SD.ev_call, ↓SD.ev_callV, ↓SD.ev_app, ↓SD.ev_gVar, ↓SD.ev_gTup, ↓SD.ev_gIx, ↓SD.ev_iE, ↓SD.ev_iRange1, ↓SD.ev_iRange2, ↓SD.ev_iZip, ↓SD.ev_comp, ↓SD.ev_tupC, ↓SD.ev_allC, ↓SD.ev_anyC, ↓SD.ev_cComp, ↓SD.eList, ↓SD.gSeq, ↓SD.look_zero, ↓SD.look_succ, ↓SD.isa_non, ↓SD.isa_bl, ↓SD.isa_int, ↓SD.isa_str, ↓SD.isa_tup, ↓SD.isa_lref, ↓SD.ite_tt, ↓SD.ite_ff, SD.add_1, SD.add_2, SD.add_3, SD.add_4, SD.sub_1, SD.sub_2, SD.mul_1, SD.mul_2, SD.fdiv_1, SD.mod_1, SD.pow_1, SD.neg_1, SD.tr_non, SD.tr_bl, SD.tr_int, SD.tr_str, SD.tr_tup, SD.tr_lref, SD.lt_1, SD.le_1, SD.is_1, SD.is_2, SD.is_3, SD.is_4, SD.is_5, SD.is_6, SD.is_7, SD.cmp_eq, SD.cmp_ne, SD.cmp_lt, SD.cmp_le, SD.cmp_gt, SD.cmp_ge, SD.cmp_is, SD.cmp_isnot, SD.cmp_in, SD.cmp_notin, SD.eqk_int, SD.eqk_bl, SD.ix_tup, SD.ix_lref, SD.len_tup, SD.len_lref, SD.len_str, SD.abs_int, SD.int_int, SD.int_bl, SD.tuple_tup, SD.tuple_lref, SD.list_tup, SD.list_lref, SD.witer_tup, SD.witer_lref, SD.wzip_tup, SD.wipe_nil, SD.wipe_cons, SD.tru_nil, SD.tru_bl, SD.dE, SD.pairs, SD.allD, SD.anyD, SD.atI_0, SD.atI_1, SD.atI_2, SD.atI_3, SD.isa_NoneType_int, SD.isa_NoneType_bool, SD.isa_NoneType_str, SD.isa_NoneType_tuple, SD.isa_NoneType_list, SD.isa_bool_int, SD.isa_bool_bool, SD.isa_bool_str, SD.isa_bool_tuple, SD.isa_bool_list, SD.isa_int_int, SD.isa_int_bool, SD.isa_int_str, SD.isa_int_tuple, SD.isa_int_list, SD.isa_str_int, SD.isa_str_bool, SD.isa_str_str, SD.isa_str_tuple, SD.isa_str_list, SD.isa_tuple_int, SD.isa_tuple_bool, SD.isa_tuple_str, SD.isa_tuple_tuple, SD.isa_tuple_list, SD.isa_list_int, SD.isa_list_bool, SD.isa_list_str, SD.isa_list_tuple, SD.isa_list_list, List.length_cons, List.length_nil, List.map_cons, List.map_nil, List.set_cons_zero, List.set_cons_succ, List.replicate_succ, List.replicate_zero, List.cons_append, List.nil_append, List.zipWith_cons_cons, List.zipWith_nil_left, Nat.add_sub_cancel, Nat.reduceAdd, Nat.reduceSub, Nat.zero_add, Nat.sub_self, and_true, true_and, reduceCtorEq, if_true, if_false, ite_true, ite_false, Bool.false_eq_true, Bool.not_true, Bool.not_false, decide_eq_true_eq, SD.forLoop, SD.compLoop, fr_int, wy_mk, e, eqk_wy])
  exact trQ_self rfl h
theorem h__law_cross (T : Tab) (h1 : T.sp "_law_add" = some sp_added) (h2 : T.sp "_law_mul" = some sp_multiplied) (h3 : T.sp "_law_neg" = some sp_negated) : Meets sp_cross N__law_cross (t__law_cross T) := by
  rintro ds S E Q hl ⟨v, w, rfl, ⟨j, k, hv, hw, hjk⟩, h⟩
  unfold t__law_cross N__law_cross
  ((try simp only [SD.startD, List.length_cons, List.length_nil, List.map_cons, List.map_nil, List.replicate_succ, List.replicate_zero, List.cons_append, List.nil_append, Nat.reduceAdd, Nat.reduceSub, Nat.zero_add]); simp only [↓SD.ev_nil, ↓SD.ev_seq, ↓SD.ev_next, ↓SD.ev_break, ↓SD.ev_cont, ↓SD.ev_expr, ↓SD.ev_ret, ↓SD.ev_retN, ↓SD.ev_asg, ↓SD.ev_aug, ↓SD.ev_if, ↓SD.ev_for, ↓SD.ev_raise, ↓SD.ev_try, ↓SD.ev_var, ↓SD.ev_c, ↓SD.ev_glob, ↓SD.ev_tup, ↓SD.ev_lst, ↓SD.ev_bin, ↓SD.ev_un, ↓SD.ev_b1, ↓SD.ev_tE, ↓SD.ev_tNot, ↓SD.ev_tAnd, ↓SD.ev_tOr, ↓SD.ev_tYes, ↓SD.ev_not, ↓SD.ev_and, ↓SD.ev_or, ↓SD.ev_ifE, ↓SD.ev_cmp, ↓SD.ev_chain, ↓SD.ev_ix, ↓SD.ev_slice, ↓SD.ev_part1, ↓SD.ev_part0, ↓SD.ev_call, ↓SD.ev_callV, ↓SD.ev_app, ↓SD.ev_gVar, ↓SD.ev_gTup, ↓SD.ev_gIx, ↓SD.ev_iE, ↓SD.ev_iRange1, ↓SD.ev_iRange2, ↓SD.ev_iZip, ↓SD.ev_comp, ↓SD.ev_tupC, ↓SD.ev_allC, ↓SD.ev_anyC, ↓SD.ev_cComp, ↓SD.eList, ↓SD.gSeq, ↓SD.look_zero, ↓SD.look_succ, ↓SD.isa_non, ↓SD.isa_bl, ↓SD.isa_int, ↓SD.isa_str, ↓SD.isa_tup, ↓SD.isa_lref, ↓SD.ite_tt, ↓SD.ite_ff, SD.add_1, SD.add_2, SD.add_3, SD.add_4, SD.sub_1, SD.sub_2, SD.mul_1, SD.mul_2, SD.fdiv_1, SD.mod_1, SD.pow_1, SD.neg_1, SD.tr_non, SD.tr_bl, SD.tr_int, SD.tr_str, SD.tr_tup, SD.tr_lref, SD.lt_1, SD.le_1, SD.is_1, SD.is_2, SD.is_3, SD.is_4, SD.is_5, SD.is_6, SD.is_7, SD.cmp_eq, SD.cmp_ne, SD.cmp_lt, SD.cmp_le, SD.cmp_gt, SD.cmp_ge, SD.cmp_is, SD.cmp_isnot, SD.cmp_in, SD.cmp_notin, SD.eqk_int, SD.eqk_bl, SD.ix_tup, SD.ix_lref, SD.len_tup, SD.len_lref, SD.len_str, SD.abs_int, SD.int_int, SD.int_bl, SD.tuple_tup, SD.tuple_lref, SD.list_tup, SD.list_lref, SD.witer_tup, SD.witer_lref, SD.wzip_tup, SD.wipe_nil, SD.wipe_cons, SD.tru_nil, SD.tru_bl, SD.dE, SD.pairs, SD.allD, SD.anyD, SD.atI_0, SD.atI_1, SD.atI_2, SD.atI_3, SD.isa_NoneType_int, SD.isa_NoneType_bool, SD.isa_NoneType_str, SD.isa_NoneType_tuple, SD.isa_NoneType_list, SD.isa_bool_int, SD.isa_bool_bool, SD.isa_bool_str, SD.isa_bool_tuple, SD.isa_bool_list, SD.isa_int_int, SD.isa_int_bool, SD.isa_int_str, SD.isa_int_tuple, SD.isa_int_list, SD.isa_str_int, SD.isa_str_bool, SD.isa_str_str, SD.isa_str_tuple, SD.isa_str_list, SD.isa_tuple_int, SD.isa_tuple_bool, SD.isa_tuple_str, SD.isa_tuple_tuple, SD.isa_tuple_list, SD.isa_list_int, SD.isa_list_bool, SD.isa_list_str, SD.isa_list_tuple, SD.isa_list_list, List.length_cons, List.length_nil, List.map_cons, List.map_nil, List.set_cons_zero, List.set_cons_succ, List.replicate_succ, List.replicate_zero, List.cons_append, List.nil_append, List.zipWith_cons_cons, List.zipWith_nil_left, Nat.add_sub_cancel, Nat.reduceAdd, Nat.reduceSub, Nat.zero_add, Nat.sub_self, and_true, true_and, reduceCtorEq, if_true, if_false, ite_true, ite_false, Bool.false_eq_true, Bool.not_true, Bool.not_false, decide_eq_true_eq, SD.forLoop, SD.compLoop, h1, h2, h3, sp_added, sp_multiplied, sp_negated, spQ2_n, spQ2_fr, spQ1_n, spQ1_fr, ix_wy0, ix_wy1, ix_wy2, wy_mk])
  walk_at "sides"
  exact trQ_self rfl h
theorem h__law_lean (T : Tab) (h1 : T.sp "_law_times" = some sp_scaled) (h2 : T.sp "_law_turned" = some sp_turned) : Meets sp_lean N__law_lean (t__law_lean T) := by
  rintro ds S E Q hl ⟨v, rfl, ⟨hv, h0⟩, h⟩
  unfold t__law_lean N__law_lean
  have hl0 := lead_ne h0
  have hB := B_lead hv
  obtain ⟨l, hl⟩ := lead_list h0
  ((try simp only [SD.startD, List.length_cons, List.length_nil, List.map_cons, List.map_nil, List.replicate_succ, List.replicate_zero, List.cons_append, List.nil_append, Nat.reduceAdd, Nat.reduceSub, Nat.zero_add]); simp only [↓SD.ev_nil, ↓SD.ev_seq, ↓SD.ev_next, ↓SD.ev_break, ↓SD.ev_cont, ↓SD.ev_expr, ↓SD.ev_ret, ↓SD.ev_retN, ↓SD.ev_asg, ↓SD.ev_aug, ↓SD.ev_if, ↓SD.ev_for, ↓SD.ev_raise, ↓SD.ev_try, ↓SD.ev_var, ↓SD.ev_c, ↓SD.ev_glob, ↓SD.ev_tup, ↓SD.ev_lst, ↓SD.ev_bin, ↓SD.ev_un, ↓SD.ev_b1, ↓SD.ev_tE, ↓SD.ev_tNot, ↓SD.ev_tAnd, ↓SD.ev_tOr, ↓SD.ev_tYes, ↓SD.ev_not, ↓SD.ev_and, ↓SD.ev_or, ↓SD.ev_ifE, ↓SD.ev_cmp, ↓SD.ev_chain, ↓SD.ev_ix, ↓SD.ev_slice, ↓SD.ev_part1, ↓SD.ev_part0, ↓SD.ev_call, ↓SD.ev_callV, ↓SD.ev_app, ↓SD.ev_gVar, ↓SD.ev_gTup, ↓SD.ev_gIx, ↓SD.ev_iE, ↓SD.ev_iRange1, ↓SD.ev_iRange2, ↓SD.ev_iZip, ↓SD.ev_comp, ↓SD.ev_tupC, ↓SD.ev_allC, ↓SD.ev_anyC, ↓SD.ev_cComp, ↓SD.eList, ↓SD.gSeq, ↓SD.look_zero, ↓SD.look_succ, ↓SD.isa_non, ↓SD.isa_bl, ↓SD.isa_int, ↓SD.isa_str, ↓SD.isa_tup, ↓SD.isa_lref, ↓SD.ite_tt, ↓SD.ite_ff, SD.add_1, SD.add_2, SD.add_3, SD.add_4, SD.sub_1, SD.sub_2, SD.mul_1, SD.mul_2, SD.fdiv_1, SD.mod_1, SD.pow_1, SD.neg_1, SD.tr_non, SD.tr_bl, SD.tr_int, SD.tr_str, SD.tr_tup, SD.tr_lref, SD.lt_1, SD.le_1, SD.is_1, SD.is_2, SD.is_3, SD.is_4, SD.is_5, SD.is_6, SD.is_7, SD.cmp_eq, SD.cmp_ne, SD.cmp_lt, SD.cmp_le, SD.cmp_gt, SD.cmp_ge, SD.cmp_is, SD.cmp_isnot, SD.cmp_in, SD.cmp_notin, SD.eqk_int, SD.eqk_bl, SD.ix_tup, SD.ix_lref, SD.len_tup, SD.len_lref, SD.len_str, SD.abs_int, SD.int_int, SD.int_bl, SD.tuple_tup, SD.tuple_lref, SD.list_tup, SD.list_lref, SD.witer_tup, SD.witer_lref, SD.wzip_tup, SD.wipe_nil, SD.wipe_cons, SD.tru_nil, SD.tru_bl, SD.dE, SD.pairs, SD.allD, SD.anyD, SD.atI_0, SD.atI_1, SD.atI_2, SD.atI_3, SD.isa_NoneType_int, SD.isa_NoneType_bool, SD.isa_NoneType_str, SD.isa_NoneType_tuple, SD.isa_NoneType_list, SD.isa_bool_int, SD.isa_bool_bool, SD.isa_bool_str, SD.isa_bool_tuple, SD.isa_bool_list, SD.isa_int_int, SD.isa_int_bool, SD.isa_int_str, SD.isa_int_tuple, SD.isa_int_list, SD.isa_str_int, SD.isa_str_bool, SD.isa_str_str, SD.isa_str_tuple, SD.isa_str_list, SD.isa_tuple_int, SD.isa_tuple_bool, SD.isa_tuple_str, SD.isa_tuple_tuple, SD.isa_tuple_list, SD.isa_list_int, SD.isa_list_bool, SD.isa_list_str, SD.isa_list_tuple, SD.isa_list_list, List.length_cons, List.length_nil, List.map_cons, List.map_nil, List.set_cons_zero, List.set_cons_succ, List.replicate_succ, List.replicate_zero, List.cons_append, List.nil_append, List.zipWith_cons_cons, List.zipWith_nil_left, Nat.add_sub_cancel, Nat.reduceAdd, Nat.reduceSub, Nat.zero_add, Nat.sub_self, and_true, true_and, reduceCtorEq, if_true, if_false, ite_true, ite_false, Bool.false_eq_true, Bool.not_true, Bool.not_false, decide_eq_true_eq, it_wy])
  refine ⟨small3, comp_pure (p := nzD) (f := id) trivial (fun d m Kt Kf k => ?_) ?_⟩
  · obtain ⟨q, rfl⟩ : ∃ q, d = fr q := by
      simp only [List.mem_cons, List.not_mem_nil, or_false] at m
      rcases m with m | m | m <;> exact ⟨_, m⟩
    rw [nz_fr] at k
    have e : (!decide (q.num = 0)) = decide (q ≠ 0) := by
      by_cases c : q = 0
      · subst c; rfl
      · have : q.num ≠ 0 := fun z => c (Rat.num_eq_zero.mp z)
        simp [c, this]
    ((try simp only [SD.startD, List.length_cons, List.length_nil, List.map_cons, List.map_nil, List.replicate_succ, List.replicate_zero, List.cons_append, List.nil_append, Nat.reduceAdd, Nat.reduceSub, Nat.zero_add]); simp only [↓SD.ev_nil, ↓SD.ev_seq, ↓SD.ev_next, ↓SD.ev_break, ↓SD.ev_cont, ↓SD.ev_expr, ↓SD.ev_ret, ↓SD.ev_retN, ↓SD.ev_asg, ↓SD.ev_aug, ↓SD.ev_if, ↓SD.ev_for, ↓SD.ev_raise, ↓SD.ev_try, ↓SD.ev_var, ↓SD.ev_c, ↓SD.ev_glob, ↓SD.ev_tup, ↓SD.ev_lst, ↓SD.ev_bin, ↓SD.ev_un, ↓SD.ev_b1, ↓SD.ev_tE, ↓SD.ev_tNot, ↓SD.ev_tAnd, ↓SD.ev_tOr, ↓SD.ev_tYes, ↓SD.ev_not, ↓SD.ev_and, ↓SD.ev_or, ↓SD.ev_ifE, ↓SD.ev_cmp, ↓SD.ev_chain, ↓SD.ev_ix, ↓SD.ev_slice, ↓SD.ev_part1, ↓SD.ev_part0, ↓SD.ev_call, ↓SD.ev_callV, ↓SD.ev_app, ↓SD.ev_gVar, ↓SD.ev_gTup, ↓SD.ev_gIx, ↓SD.ev_iE, ↓SD.ev_iRange1, ↓SD.ev_iRange2, ↓SD.ev_iZip, ↓SD.ev_comp, ↓SD.ev_tupC, ↓SD.ev_allC, ↓SD.ev_anyC, ↓SD.ev_cComp, ↓SD.eList, ↓SD.gSeq, ↓SD.look_zero, ↓SD.look_succ, ↓SD.isa_non, ↓SD.isa_bl, ↓SD.isa_int, ↓SD.isa_str, ↓SD.isa_tup, ↓SD.isa_lref, ↓SD.ite_tt, ↓SD.ite_ff, SD.add_1, SD.add_2, SD.add_3, SD.add_4, SD.sub_1, SD.sub_2, SD.mul_1, SD.mul_2, SD.fdiv_1, SD.mod_1, SD.pow_1, SD.neg_1, SD.tr_non, SD.tr_bl, SD.tr_int, SD.tr_str, SD.tr_tup, SD.tr_lref, SD.lt_1, SD.le_1, SD.is_1, SD.is_2, SD.is_3, SD.is_4, SD.is_5, SD.is_6, SD.is_7, SD.cmp_eq, SD.cmp_ne, SD.cmp_lt, SD.cmp_le, SD.cmp_gt, SD.cmp_ge, SD.cmp_is, SD.cmp_isnot, SD.cmp_in, SD.cmp_notin, SD.eqk_int, SD.eqk_bl, SD.ix_tup, SD.ix_lref, SD.len_tup, SD.len_lref, SD.len_str, SD.abs_int, SD.int_int, SD.int_bl, SD.tuple_tup, SD.tuple_lref, SD.list_tup, SD.list_lref, SD.witer_tup, SD.witer_lref, SD.wzip_tup, SD.wipe_nil, SD.wipe_cons, SD.tru_nil, SD.tru_bl, SD.dE, SD.pairs, SD.allD, SD.anyD, SD.atI_0, SD.atI_1, SD.atI_2, SD.atI_3, SD.isa_NoneType_int, SD.isa_NoneType_bool, SD.isa_NoneType_str, SD.isa_NoneType_tuple, SD.isa_NoneType_list, SD.isa_bool_int, SD.isa_bool_bool, SD.isa_bool_str, SD.isa_bool_tuple, SD.isa_bool_list, SD.isa_int_int, SD.isa_int_bool, SD.isa_int_str, SD.isa_int_tuple, SD.isa_int_list, SD.isa_str_int, SD.isa_str_bool, SD.isa_str_str, SD.isa_str_tuple, SD.isa_str_list, SD.isa_tuple_int, SD.isa_tuple_bool, SD.isa_tuple_str, SD.isa_tuple_tuple, SD.isa_tuple_list, SD.isa_list_int, SD.isa_list_bool, SD.isa_list_str, SD.isa_list_tuple, SD.isa_list_list, List.length_cons, List.length_nil, List.map_cons, List.map_nil, List.set_cons_zero, List.set_cons_succ, List.replicate_succ, List.replicate_zero, List.cons_append, List.nil_append, List.zipWith_cons_cons, List.zipWith_nil_left, Nat.add_sub_cancel, Nat.reduceAdd, Nat.reduceSub, Nat.zero_add, Nat.sub_self, and_true, true_and, reduceCtorEq, if_true, if_false, ite_true, ite_false, Bool.false_eq_true, Bool.not_true, Bool.not_false, decide_eq_true_eq, ix_fr0, eqk_int, e])
    simpa using k
  · rw [hl]
    ((try simp only [SD.startD, List.length_cons, List.length_nil, List.map_cons, List.map_nil, List.replicate_succ, List.replicate_zero, List.cons_append, List.nil_append, Nat.reduceAdd, Nat.reduceSub, Nat.zero_add]); simp only [↓SD.ev_nil, ↓SD.ev_seq, ↓SD.ev_next, ↓SD.ev_break, ↓SD.ev_cont, ↓SD.ev_expr, ↓SD.ev_ret, ↓SD.ev_retN, ↓SD.ev_asg, ↓SD.ev_aug, ↓SD.ev_if, ↓SD.ev_for, ↓SD.ev_raise, ↓SD.ev_try, ↓SD.ev_var, ↓SD.ev_c, ↓SD.ev_glob, ↓SD.ev_tup, ↓SD.ev_lst, ↓SD.ev_bin, ↓SD.ev_un, ↓SD.ev_b1, ↓SD.ev_tE, ↓SD.ev_tNot, ↓SD.ev_tAnd, ↓SD.ev_tOr, ↓SD.ev_tYes, ↓SD.ev_not, ↓SD.ev_and, ↓SD.ev_or, ↓SD.ev_ifE, ↓SD.ev_cmp, ↓SD.ev_chain, ↓SD.ev_ix, ↓SD.ev_slice, ↓SD.ev_part1, ↓SD.ev_part0, ↓SD.ev_call, ↓SD.ev_callV, ↓SD.ev_app, ↓SD.ev_gVar, ↓SD.ev_gTup, ↓SD.ev_gIx, ↓SD.ev_iE, ↓SD.ev_iRange1, ↓SD.ev_iRange2, ↓SD.ev_iZip, ↓SD.ev_comp, ↓SD.ev_tupC, ↓SD.ev_allC, ↓SD.ev_anyC, ↓SD.ev_cComp, ↓SD.eList, ↓SD.gSeq, ↓SD.look_zero, ↓SD.look_succ, ↓SD.isa_non, ↓SD.isa_bl, ↓SD.isa_int, ↓SD.isa_str, ↓SD.isa_tup, ↓SD.isa_lref, ↓SD.ite_tt, ↓SD.ite_ff, SD.add_1, SD.add_2, SD.add_3, SD.add_4, SD.sub_1, SD.sub_2, SD.mul_1, SD.mul_2, SD.fdiv_1, SD.mod_1, SD.pow_1, SD.neg_1, SD.tr_non, SD.tr_bl, SD.tr_int, SD.tr_str, SD.tr_tup, SD.tr_lref, SD.lt_1, SD.le_1, SD.is_1, SD.is_2, SD.is_3, SD.is_4, SD.is_5, SD.is_6, SD.is_7, SD.cmp_eq, SD.cmp_ne, SD.cmp_lt, SD.cmp_le, SD.cmp_gt, SD.cmp_ge, SD.cmp_is, SD.cmp_isnot, SD.cmp_in, SD.cmp_notin, SD.eqk_int, SD.eqk_bl, SD.ix_tup, SD.ix_lref, SD.len_tup, SD.len_lref, SD.len_str, SD.abs_int, SD.int_int, SD.int_bl, SD.tuple_tup, SD.tuple_lref, SD.list_tup, SD.list_lref, SD.witer_tup, SD.witer_lref, SD.wzip_tup, SD.wipe_nil, SD.wipe_cons, SD.tru_nil, SD.tru_bl, SD.dE, SD.pairs, SD.allD, SD.anyD, SD.atI_0, SD.atI_1, SD.atI_2, SD.atI_3, SD.isa_NoneType_int, SD.isa_NoneType_bool, SD.isa_NoneType_str, SD.isa_NoneType_tuple, SD.isa_NoneType_list, SD.isa_bool_int, SD.isa_bool_bool, SD.isa_bool_str, SD.isa_bool_tuple, SD.isa_bool_list, SD.isa_int_int, SD.isa_int_bool, SD.isa_int_str, SD.isa_int_tuple, SD.isa_int_list, SD.isa_str_int, SD.isa_str_bool, SD.isa_str_str, SD.isa_str_tuple, SD.isa_str_list, SD.isa_tuple_int, SD.isa_tuple_bool, SD.isa_tuple_str, SD.isa_tuple_tuple, SD.isa_tuple_list, SD.isa_list_int, SD.isa_list_bool, SD.isa_list_str, SD.isa_list_tuple, SD.isa_list_list, List.length_cons, List.length_nil, List.map_cons, List.map_nil, List.set_cons_zero, List.set_cons_succ, List.replicate_succ, List.replicate_zero, List.cons_append, List.nil_append, List.zipWith_cons_cons, List.zipWith_nil_left, Nat.add_sub_cancel, Nat.reduceAdd, Nat.reduceSub, Nat.zero_add, Nat.sub_self, and_true, true_and, reduceCtorEq, if_true, if_false, ite_true, ite_false, Bool.false_eq_true, Bool.not_true, Bool.not_false, decide_eq_true_eq, cellL_new, h1, h2, sp_turned, spQ1_n, spQ1_fr, sp_scaled, w_nQ, spWQ_wy])
    walk_at "sides"
    exact trQ_app rfl h
end SP

-- SQc
set_option Elab.async false
set_option linter.all false
set_option maxRecDepth 100000
set_option maxHeartbeats 1000000
namespace SP
open PySem L2 SD SL
/-! ### draws -/
def dSt (xs : List Int) (p : Int) (R : Store) : Store := .lst (xs.map .int) :: .lst [.int p] :: R
def okX (xs : List Int) : Prop := ∀ x ∈ xs, 0 ≤ x ∧ x ≤ 3000000
theorem cell_d0 {xs : List Int} {p : Int} {R : Store} {Q : List D → Prop} : cellL (dSt xs p R) 0 Q = Q (xs.map .int) := rfl
theorem cell_d1 {xs : List Int} {p : Int} {R : Store} {Q : List D → Prop} : cellL (dSt xs p R) 1 Q = Q [.int p] := rfl
theorem mulOk_small {i j : Int} (hi : i.natAbs < 2 ^ 100) (hj : j.natAbs < 2 ^ 100) : mulOk i j := by
  have a := log2_lt_of hi (by decide)
  have b := log2_lt_of hj (by decide)
  unfold mulOk
  omega
theorem fmod_in {a b : Int} (hb : 0 < b) : 0 ≤ Int.fmod a b ∧ Int.fmod a b < b := by
  rw [Int.fmod_eq_emod_of_nonneg _ (by omega)]
  exact ⟨Int.emod_nonneg _ (by omega), Int.emod_lt_of_pos _ hb⟩
theorem atI_in {xs : List D} {i : Int} (h0 : 0 ≤ i) (h1 : i < xs.length) : ∃ d, d ∈ xs ∧ atI xs i = some d := by
  have hl : i.toNat < xs.length := by omega
  refine ⟨xs[i.toNat], List.getElem_mem hl, ?_⟩
  unfold atI ixN
  rw [if_pos h0, if_pos h1]
  show xs[i.toNat]? = _
  exact List.getElem?_eq_getElem hl
def sp_more : FnD := ⟨2, fun ds S _ Q => ∃ xs p q R, ds = [.lref 0, .int p] ∧ S = dSt xs q R ∧ (okX xs ∧ xs.length ≤ 1000000 ∧ 0 ≤ p ∧ p ≤ 1000000000) ∧ ∀ r, 0 ≤ r → Q (.int r) S⟩
theorem h__law_more (T : Tab) : Meets sp_more N__law_more (t__law_more T) := by
  rintro ds S E Q hl ⟨xs, p, q, R, rfl, rfl, ⟨hx, hn, hp0, hp1⟩, h⟩
  unfold t__law_more N__law_more
  ((try simp only [SD.startD, List.length_cons, List.length_nil, List.map_cons, List.map_nil, List.replicate_succ, List.replicate_zero, List.cons_append, List.nil_append, Nat.reduceAdd, Nat.reduceSub, Nat.zero_add]); simp only [↓SD.ev_nil, ↓SD.ev_seq, ↓SD.ev_next, ↓SD.ev_break, ↓SD.ev_cont, ↓SD.ev_expr, ↓SD.ev_ret, ↓SD.ev_retN, ↓SD.ev_asg, ↓SD.ev_aug, ↓SD.ev_if, ↓SD.ev_for, ↓SD.ev_raise, ↓SD.ev_try, ↓SD.ev_var, ↓SD.ev_c, ↓SD.ev_glob, ↓SD.ev_tup, ↓SD.ev_lst, ↓SD.ev_bin, ↓SD.ev_un, ↓SD.ev_b1, ↓SD.ev_tE, ↓SD.ev_tNot, ↓SD.ev_tAnd, ↓SD.ev_tOr, ↓SD.ev_tYes, ↓SD.ev_not, ↓SD.ev_and, ↓SD.ev_or, ↓SD.ev_ifE, ↓SD.ev_cmp, ↓SD.ev_chain, ↓SD.ev_ix, ↓SD.ev_slice, ↓SD.ev_part1, ↓SD.ev_part0, ↓SD.ev_call, ↓SD.ev_callV, ↓SD.ev_app, ↓SD.ev_gVar, ↓SD.ev_gTup, ↓SD.ev_gIx, ↓SD.ev_iE, ↓SD.ev_iRange1, ↓SD.ev_iRange2, ↓SD.ev_iZip, ↓SD.ev_comp, ↓SD.ev_tupC, ↓SD.ev_allC, ↓SD.ev_anyC, ↓SD.ev_cComp, ↓SD.eList, ↓SD.gSeq, ↓SD.look_zero, ↓SD.look_succ, ↓SD.isa_non, ↓SD.isa_bl, ↓SD.isa_int, ↓SD.isa_str, ↓SD.isa_tup, ↓SD.isa_lref, ↓SD.ite_tt, ↓SD.ite_ff, SD.add_1, SD.add_2, SD.add_3, SD.add_4, SD.sub_1, SD.sub_2, SD.mul_1, SD.mul_2, SD.fdiv_1, SD.mod_1, SD.pow_1, SD.neg_1, SD.tr_non, SD.tr_bl, SD.tr_int, SD.tr_str, SD.tr_tup, SD.tr_lref, SD.lt_1, SD.le_1, SD.is_1, SD.is_2, SD.is_3, SD.is_4, SD.is_5, SD.is_6, SD.is_7, SD.cmp_eq, SD.cmp_ne, SD.cmp_lt, SD.cmp_le, SD.cmp_gt, SD.cmp_ge, SD.cmp_is, SD.cmp_isnot, SD.cmp_in, SD.cmp_notin, SD.eqk_int, SD.eqk_bl, SD.ix_tup, SD.ix_lref, SD.len_tup, SD.len_lref, SD.len_str, SD.abs_int, SD.int_int, SD.int_bl, SD.tuple_tup, SD.tuple_lref, SD.list_tup, SD.list_lref, SD.witer_tup, SD.witer_lref, SD.wzip_tup, SD.wipe_nil, SD.wipe_cons, SD.tru_nil, SD.tru_bl, SD.dE, SD.pairs, SD.allD, SD.anyD, SD.atI_0, SD.atI_1, SD.atI_2, SD.atI_3, SD.isa_NoneType_int, SD.isa_NoneType_bool, SD.isa_NoneType_str, SD.isa_NoneType_tuple, SD.isa_NoneType_list, SD.isa_bool_int, SD.isa_bool_bool, SD.isa_bool_str, SD.isa_bool_tuple, SD.isa_bool_list, SD.isa_int_int, SD.isa_int_bool, SD.isa_int_str, SD.isa_int_tuple, SD.isa_int_list, SD.isa_str_int, SD.isa_str_bool, SD.isa_str_str, SD.isa_str_tuple, SD.isa_str_list, SD.isa_tuple_int, SD.isa_tuple_bool, SD.isa_tuple_str, SD.isa_tuple_tuple, SD.isa_tuple_list, SD.isa_list_int, SD.isa_list_bool, SD.isa_list_str, SD.isa_list_tuple, SD.isa_list_list, List.length_cons, List.length_nil, List.map_cons, List.map_nil, List.set_cons_zero, List.set_cons_succ, List.replicate_succ, List.replicate_zero, List.cons_append, List.nil_append, List.zipWith_cons_cons, List.zipWith_nil_left, Nat.add_sub_cancel, Nat.reduceAdd, Nat.reduceSub, Nat.zero_add, Nat.sub_self, and_true, true_and, reduceCtorEq, if_true, if_false, ite_true, ite_false, Bool.false_eq_true, Bool.not_true, Bool.not_false, decide_eq_true_eq, cell_d0, range3, List.length_map])
  have hb : ∀ {a : Int}, 0 ≤ a → a ≤ 10 ^ 20 → a.natAbs < 2 ^ 100 := fun h1 h2 => by omega
  refine ⟨mulOk_small (hb hp0 (by omega)) (by decide), by decide, ⟨by decide, by decide⟩, ?_⟩
  have m0 := fmod_in (a := p * 48271 + (xs.length : Int) + 11) (b := 2147483629) (by decide)
  refine for_inv (fun j env S' => S' = dSt xs q R ∧ ∃ m x, env = [some (.lref 0), some (.int p), some (.int m), x] ∧ 0 ≤ m ∧ m < 2147483629) (j := 0) (fun i d env S' K hd hi hk => ?_) ⟨rfl, _, _, rfl, m0.1, m0.2⟩ (fun env S' hi => ?_)
  · obtain ⟨rfl, m, x, rfl, hm0, hm1⟩ := hi
    refine ⟨trivial, ?_⟩
    obtain ⟨kk, rfl, hk0, hk2⟩ : ∃ kk : Int, d = .int kk ∧ 0 ≤ kk ∧ kk ≤ 2 := by
      match i, hd with
      | 0, hd => cases hd; exact ⟨0, rfl, by decide, by decide⟩
      | 1, hd => cases hd; exact ⟨1, rfl, by decide, by decide⟩
      | 2, hd => cases hd; exact ⟨2, rfl, by decide, by decide⟩
      | i + 3, hd => simp at hd
    have fin : ∀ m' : Int, 0 ≤ m' → m' ≤ 10 ^ 15 → K [some (.lref 0), some (.int p), some (.int (Int.fmod (m' * 16807 + 69621 * kk + 5) 2147483629)), some (.int kk)] (dSt xs q R) := fun m' h1 h2 => by
      have := fmod_in (a := m' * 16807 + 69621 * kk + 5) (b := 2147483629) (by decide)
      exact hk _ _ ⟨rfl, _, _, rfl, this.1, this.2⟩
    ((try simp only [SD.startD, List.length_cons, List.length_nil, List.map_cons, List.map_nil, List.replicate_succ, List.replicate_zero, List.cons_append, List.nil_append, Nat.reduceAdd, Nat.reduceSub, Nat.zero_add]); simp only [↓SD.ev_nil, ↓SD.ev_seq, ↓SD.ev_next, ↓SD.ev_break, ↓SD.ev_cont, ↓SD.ev_expr, ↓SD.ev_ret, ↓SD.ev_retN, ↓SD.ev_asg, ↓SD.ev_aug, ↓SD.ev_if, ↓SD.ev_for, ↓SD.ev_raise, ↓SD.ev_try, ↓SD.ev_var, ↓SD.ev_c, ↓SD.ev_glob, ↓SD.ev_tup, ↓SD.ev_lst, ↓SD.ev_bin, ↓SD.ev_un, ↓SD.ev_b1, ↓SD.ev_tE, ↓SD.ev_tNot, ↓SD.ev_tAnd, ↓SD.ev_tOr, ↓SD.ev_tYes, ↓SD.ev_not, ↓SD.ev_and, ↓SD.ev_or, ↓SD.ev_ifE, ↓SD.ev_cmp, ↓SD.ev_chain, ↓SD.ev_ix, ↓SD.ev_slice, ↓SD.ev_part1, ↓SD.ev_part0, ↓SD.ev_call, ↓SD.ev_callV, ↓SD.ev_app, ↓SD.ev_gVar, ↓SD.ev_gTup, ↓SD.ev_gIx, ↓SD.ev_iE, ↓SD.ev_iRange1, ↓SD.ev_iRange2, ↓SD.ev_iZip, ↓SD.ev_comp, ↓SD.ev_tupC, ↓SD.ev_allC, ↓SD.ev_anyC, ↓SD.ev_cComp, ↓SD.eList, ↓SD.gSeq, ↓SD.look_zero, ↓SD.look_succ, ↓SD.isa_non, ↓SD.isa_bl, ↓SD.isa_int, ↓SD.isa_str, ↓SD.isa_tup, ↓SD.isa_lref, ↓SD.ite_tt, ↓SD.ite_ff, SD.add_1, SD.add_2, SD.add_3, SD.add_4, SD.sub_1, SD.sub_2, SD.mul_1, SD.mul_2, SD.fdiv_1, SD.mod_1, SD.pow_1, SD.neg_1, SD.tr_non, SD.tr_bl, SD.tr_int, SD.tr_str, SD.tr_tup, SD.tr_lref, SD.lt_1, SD.le_1, SD.is_1, SD.is_2, SD.is_3, SD.is_4, SD.is_5, SD.is_6, SD.is_7, SD.cmp_eq, SD.cmp_ne, SD.cmp_lt, SD.cmp_le, SD.cmp_gt, SD.cmp_ge, SD.cmp_is, SD.cmp_isnot, SD.cmp_in, SD.cmp_notin, SD.eqk_int, SD.eqk_bl, SD.ix_tup, SD.ix_lref, SD.len_tup, SD.len_lref, SD.len_str, SD.abs_int, SD.int_int, SD.int_bl, SD.tuple_tup, SD.tuple_lref, SD.list_tup, SD.list_lref, SD.witer_tup, SD.witer_lref, SD.wzip_tup, SD.wipe_nil, SD.wipe_cons, SD.tru_nil, SD.tru_bl, SD.dE, SD.pairs, SD.allD, SD.anyD, SD.atI_0, SD.atI_1, SD.atI_2, SD.atI_3, SD.isa_NoneType_int, SD.isa_NoneType_bool, SD.isa_NoneType_str, SD.isa_NoneType_tuple, SD.isa_NoneType_list, SD.isa_bool_int, SD.isa_bool_bool, SD.isa_bool_str, SD.isa_bool_tuple, SD.isa_bool_list, SD.isa_int_int, SD.isa_int_bool, SD.isa_int_str, SD.isa_int_tuple, SD.isa_int_list, SD.isa_str_int, SD.isa_str_bool, SD.isa_str_str, SD.isa_str_tuple, SD.isa_str_list, SD.isa_tuple_int, SD.isa_tuple_bool, SD.isa_tuple_str, SD.isa_tuple_tuple, SD.isa_tuple_list, SD.isa_list_int, SD.isa_list_bool, SD.isa_list_str, SD.isa_list_tuple, SD.isa_list_list, List.length_cons, List.length_nil, List.map_cons, List.map_nil, List.set_cons_zero, List.set_cons_succ, List.replicate_succ, List.replicate_zero, List.cons_append, List.nil_append, List.zipWith_cons_cons, List.zipWith_nil_left, Nat.add_sub_cancel, Nat.reduceAdd, Nat.reduceSub, Nat.zero_add, Nat.sub_self, and_true, true_and, reduceCtorEq, if_true, if_false, ite_true, ite_false, Bool.false_eq_true, Bool.not_true, Bool.not_false, decide_eq_true_eq, cell_d0, List.length_map])
    cases hxs : xs with
    | nil =>
      ((try simp only [SD.startD, List.length_cons, List.length_nil, List.map_cons, List.map_nil, List.replicate_succ, List.replicate_zero, List.cons_append, List.nil_append, Nat.reduceAdd, Nat.reduceSub, Nat.zero_add]); simp only [↓SD.ev_nil, ↓SD.ev_seq, ↓SD.ev_next, ↓SD.ev_break, ↓SD.ev_cont, ↓SD.ev_expr, ↓SD.ev_ret, ↓SD.ev_retN, ↓SD.ev_asg, ↓SD.ev_aug, ↓SD.ev_if, ↓SD.ev_for, ↓SD.ev_raise, ↓SD.ev_try, ↓SD.ev_var, ↓SD.ev_c, ↓SD.ev_glob, ↓SD.ev_tup, ↓SD.ev_lst, ↓SD.ev_bin, ↓SD.ev_un, ↓SD.ev_b1, ↓SD.ev_tE, ↓SD.ev_tNot, ↓SD.ev_tAnd, ↓SD.ev_tOr, ↓SD.ev_tYes, ↓SD.ev_not, ↓SD.ev_and, ↓SD.ev_or, ↓SD.ev_ifE, ↓SD.ev_cmp, ↓SD.ev_chain, ↓SD.ev_ix, ↓SD.ev_slice, ↓SD.ev_part1, ↓SD.ev_part0, ↓SD.ev_call, ↓SD.ev_callV, ↓SD.ev_app, ↓SD.ev_gVar, ↓SD.ev_gTup, ↓SD.ev_gIx, ↓SD.ev_iE, ↓SD.ev_iRange1, ↓SD.ev_iRange2, ↓SD.ev_iZip, ↓SD.ev_comp, ↓SD.ev_tupC, ↓SD.ev_allC, ↓SD.ev_anyC, ↓SD.ev_cComp, ↓SD.eList, ↓SD.gSeq, ↓SD.look_zero, ↓SD.look_succ, ↓SD.isa_non, ↓SD.isa_bl, ↓SD.isa_int, ↓SD.isa_str, ↓SD.isa_tup, ↓SD.isa_lref, ↓SD.ite_tt, ↓SD.ite_ff, SD.add_1, SD.add_2, SD.add_3, SD.add_4, SD.sub_1, SD.sub_2, SD.mul_1, SD.mul_2, SD.fdiv_1, SD.mod_1, SD.pow_1, SD.neg_1, SD.tr_non, SD.tr_bl, SD.tr_int, SD.tr_str, SD.tr_tup, SD.tr_lref, SD.lt_1, SD.le_1, SD.is_1, SD.is_2, SD.is_3, SD.is_4, SD.is_5, SD.is_6, SD.is_7, SD.cmp_eq, SD.cmp_ne, SD.cmp_lt, SD.cmp_le, SD.cmp_gt, SD.cmp_ge, SD.cmp_is, SD.cmp_isnot, SD.cmp_in, SD.cmp_notin, SD.eqk_int, SD.eqk_bl, SD.ix_tup, SD.ix_lref, SD.len_tup, SD.len_lref, SD.len_str, SD.abs_int, SD.int_int, SD.int_bl, SD.tuple_tup, SD.tuple_lref, SD.list_tup, SD.list_lref, SD.witer_tup, SD.witer_lref, SD.wzip_tup, SD.wipe_nil, SD.wipe_cons, SD.tru_nil, SD.tru_bl, SD.dE, SD.pairs, SD.allD, SD.anyD, SD.atI_0, SD.atI_1, SD.atI_2, SD.atI_3, SD.isa_NoneType_int, SD.isa_NoneType_bool, SD.isa_NoneType_str, SD.isa_NoneType_tuple, SD.isa_NoneType_list, SD.isa_bool_int, SD.isa_bool_bool, SD.isa_bool_str, SD.isa_bool_tuple, SD.isa_bool_list, SD.isa_int_int, SD.isa_int_bool, SD.isa_int_str, SD.isa_int_tuple, SD.isa_int_list, SD.isa_str_int, SD.isa_str_bool, SD.isa_str_str, SD.isa_str_tuple, SD.isa_str_list, SD.isa_tuple_int, SD.isa_tuple_bool, SD.isa_tuple_str, SD.isa_tuple_tuple, SD.isa_tuple_list, SD.isa_list_int, SD.isa_list_bool, SD.isa_list_str, SD.isa_list_tuple, SD.isa_list_list, List.length_cons, List.length_nil, List.map_cons, List.map_nil, List.set_cons_zero, List.set_cons_succ, List.replicate_succ, List.replicate_zero, List.cons_append, List.nil_append, List.zipWith_cons_cons, List.zipWith_nil_left, Nat.add_sub_cancel, Nat.reduceAdd, Nat.reduceSub, Nat.zero_add, Nat.sub_self, and_true, true_and, reduceCtorEq, if_true, if_false, ite_true, ite_false, Bool.false_eq_true, Bool.not_true, Bool.not_false, decide_eq_true_eq, List.map_nil, List.isEmpty_nil])
      refine ⟨mulOk_small (hb hm0 (by omega)) (by decide), mulOk_small (by decide) (hb hk0 (by omega)), by decide, ?_⟩
      rw [hxs] at fin
      exact fin m hm0 (by omega)
    | cons y ys =>
      rw [← hxs]
      have hne : (xs.map D.int).isEmpty = false := by rw [hxs]; rfl
      have hpos : (0 : Int) < (xs.length : Int) := by rw [hxs]; simp
      rw [hne]
      have f := fmod_in (a := p * (kk + 5) + kk) hpos
      obtain ⟨d, hdm, hda⟩ := atI_in (xs := xs.map D.int) f.1 (by rw [List.length_map]; exact f.2)
      obtain ⟨v, hv, rfl⟩ := List.mem_map.mp hdm
      have hvb := hx v hv
      ((try simp only [SD.startD, List.length_cons, List.length_nil, List.map_cons, List.map_nil, List.replicate_succ, List.replicate_zero, List.cons_append, List.nil_append, Nat.reduceAdd, Nat.reduceSub, Nat.zero_add]); simp only [↓SD.ev_nil, ↓SD.ev_seq, ↓SD.ev_next, ↓SD.ev_break, ↓SD.ev_cont, ↓SD.ev_expr, ↓SD.ev_ret, ↓SD.ev_retN, ↓SD.ev_asg, ↓SD.ev_aug, ↓SD.ev_if, ↓SD.ev_for, ↓SD.ev_raise, ↓SD.ev_try, ↓SD.ev_var, ↓SD.ev_c, ↓SD.ev_glob, ↓SD.ev_tup, ↓SD.ev_lst, ↓SD.ev_bin, ↓SD.ev_un, ↓SD.ev_b1, ↓SD.ev_tE, ↓SD.ev_tNot, ↓SD.ev_tAnd, ↓SD.ev_tOr, ↓SD.ev_tYes, ↓SD.ev_not, ↓SD.ev_and, ↓SD.ev_or, ↓SD.ev_ifE, ↓SD.ev_cmp, ↓SD.ev_chain, ↓SD.ev_ix, ↓SD.ev_slice, ↓SD.ev_part1, ↓SD.ev_part0, ↓SD.ev_call, ↓SD.ev_callV, ↓SD.ev_app, ↓SD.ev_gVar, ↓SD.ev_gTup, ↓SD.ev_gIx, ↓SD.ev_iE, ↓SD.ev_iRange1, ↓SD.ev_iRange2, ↓SD.ev_iZip, ↓SD.ev_comp, ↓SD.ev_tupC, ↓SD.ev_allC, ↓SD.ev_anyC, ↓SD.ev_cComp, ↓SD.eList, ↓SD.gSeq, ↓SD.look_zero, ↓SD.look_succ, ↓SD.isa_non, ↓SD.isa_bl, ↓SD.isa_int, ↓SD.isa_str, ↓SD.isa_tup, ↓SD.isa_lref, ↓SD.ite_tt, ↓SD.ite_ff, SD.add_1, SD.add_2, SD.add_3, SD.add_4, SD.sub_1, SD.sub_2, SD.mul_1, SD.mul_2, SD.fdiv_1, SD.mod_1, SD.pow_1, SD.neg_1, SD.tr_non, SD.tr_bl, SD.tr_int, SD.tr_str, SD.tr_tup, SD.tr_lref, SD.lt_1, SD.le_1, SD.is_1, SD.is_2, SD.is_3, SD.is_4, SD.is_5, SD.is_6, SD.is_7, SD.cmp_eq, SD.cmp_ne, SD.cmp_lt, SD.cmp_le, SD.cmp_gt, SD.cmp_ge, SD.cmp_is, SD.cmp_isnot, SD.cmp_in, SD.cmp_notin, SD.eqk_int, SD.eqk_bl, SD.ix_tup, SD.ix_lref, SD.len_tup, SD.len_lref, SD.len_str, SD.abs_int, SD.int_int, SD.int_bl, SD.tuple_tup, SD.tuple_lref, SD.list_tup, SD.list_lref, SD.witer_tup, SD.witer_lref, SD.wzip_tup, SD.wipe_nil, SD.wipe_cons, SD.tru_nil, SD.tru_bl, SD.dE, SD.pairs, SD.allD, SD.anyD, SD.atI_0, SD.atI_1, SD.atI_2, SD.atI_3, SD.isa_NoneType_int, SD.isa_NoneType_bool, SD.isa_NoneType_str, SD.isa_NoneType_tuple, SD.isa_NoneType_list, SD.isa_bool_int, SD.isa_bool_bool, SD.isa_bool_str, SD.isa_bool_tuple, SD.isa_bool_list, SD.isa_int_int, SD.isa_int_bool, SD.isa_int_str, SD.isa_int_tuple, SD.isa_int_list, SD.isa_str_int, SD.isa_str_bool, SD.isa_str_str, SD.isa_str_tuple, SD.isa_str_list, SD.isa_tuple_int, SD.isa_tuple_bool, SD.isa_tuple_str, SD.isa_tuple_tuple, SD.isa_tuple_list, SD.isa_list_int, SD.isa_list_bool, SD.isa_list_str, SD.isa_list_tuple, SD.isa_list_list, List.length_cons, List.length_nil, List.map_cons, List.map_nil, List.set_cons_zero, List.set_cons_succ, List.replicate_succ, List.replicate_zero, List.cons_append, List.nil_append, List.zipWith_cons_cons, List.zipWith_nil_left, Nat.add_sub_cancel, Nat.reduceAdd, Nat.reduceSub, Nat.zero_add, Nat.sub_self, and_true, true_and, reduceCtorEq, if_true, if_false, ite_true, ite_false, Bool.false_eq_true, Bool.not_true, Bool.not_false, decide_eq_true_eq, hda])
      refine ⟨mulOk_small (hb hp0 (by omega)) (hb (by omega) (by omega)), by omega, mulOk_small (hb (by omega) (by omega)) (by decide), mulOk_small (by decide) (hb hk0 (by omega)), by decide, ?_⟩
      exact fin (m + v) (by omega) (by omega)
  · obtain ⟨rfl, m, x, rfl, hm0, hm1⟩ := hi
    refine ⟨trivial, ?_⟩
    ((try simp only [SD.startD, List.length_cons, List.length_nil, List.map_cons, List.map_nil, List.replicate_succ, List.replicate_zero, List.cons_append, List.nil_append, Nat.reduceAdd, Nat.reduceSub, Nat.zero_add]); simp only [↓SD.ev_nil, ↓SD.ev_seq, ↓SD.ev_next, ↓SD.ev_break, ↓SD.ev_cont, ↓SD.ev_expr, ↓SD.ev_ret, ↓SD.ev_retN, ↓SD.ev_asg, ↓SD.ev_aug, ↓SD.ev_if, ↓SD.ev_for, ↓SD.ev_raise, ↓SD.ev_try, ↓SD.ev_var, ↓SD.ev_c, ↓SD.ev_glob, ↓SD.ev_tup, ↓SD.ev_lst, ↓SD.ev_bin, ↓SD.ev_un, ↓SD.ev_b1, ↓SD.ev_tE, ↓SD.ev_tNot, ↓SD.ev_tAnd, ↓SD.ev_tOr, ↓SD.ev_tYes, ↓SD.ev_not, ↓SD.ev_and, ↓SD.ev_or, ↓SD.ev_ifE, ↓SD.ev_cmp, ↓SD.ev_chain, ↓SD.ev_ix, ↓SD.ev_slice, ↓SD.ev_part1, ↓SD.ev_part0, ↓SD.ev_call, ↓SD.ev_callV, ↓SD.ev_app, ↓SD.ev_gVar, ↓SD.ev_gTup, ↓SD.ev_gIx, ↓SD.ev_iE, ↓SD.ev_iRange1, ↓SD.ev_iRange2, ↓SD.ev_iZip, ↓SD.ev_comp, ↓SD.ev_tupC, ↓SD.ev_allC, ↓SD.ev_anyC, ↓SD.ev_cComp, ↓SD.eList, ↓SD.gSeq, ↓SD.look_zero, ↓SD.look_succ, ↓SD.isa_non, ↓SD.isa_bl, ↓SD.isa_int, ↓SD.isa_str, ↓SD.isa_tup, ↓SD.isa_lref, ↓SD.ite_tt, ↓SD.ite_ff, SD.add_1, SD.add_2, SD.add_3, SD.add_4, SD.sub_1, SD.sub_2, SD.mul_1, SD.mul_2, SD.fdiv_1, SD.mod_1, SD.pow_1, SD.neg_1, SD.tr_non, SD.tr_bl, SD.tr_int, SD.tr_str, SD.tr_tup, SD.tr_lref, SD.lt_1, SD.le_1, SD.is_1, SD.is_2, SD.is_3, SD.is_4, SD.is_5, SD.is_6, SD.is_7, SD.cmp_eq, SD.cmp_ne, SD.cmp_lt, SD.cmp_le, SD.cmp_gt, SD.cmp_ge, SD.cmp_is, SD.cmp_isnot, SD.cmp_in, SD.cmp_notin, SD.eqk_int, SD.eqk_bl, SD.ix_tup, SD.ix_lref, SD.len_tup, SD.len_lref, SD.len_str, SD.abs_int, SD.int_int, SD.int_bl, SD.tuple_tup, SD.tuple_lref, SD.list_tup, SD.list_lref, SD.witer_tup, SD.witer_lref, SD.wzip_tup, SD.wipe_nil, SD.wipe_cons, SD.tru_nil, SD.tru_bl, SD.dE, SD.pairs, SD.allD, SD.anyD, SD.atI_0, SD.atI_1, SD.atI_2, SD.atI_3, SD.isa_NoneType_int, SD.isa_NoneType_bool, SD.isa_NoneType_str, SD.isa_NoneType_tuple, SD.isa_NoneType_list, SD.isa_bool_int, SD.isa_bool_bool, SD.isa_bool_str, SD.isa_bool_tuple, SD.isa_bool_list, SD.isa_int_int, SD.isa_int_bool, SD.isa_int_str, SD.isa_int_tuple, SD.isa_int_list, SD.isa_str_int, SD.isa_str_bool, SD.isa_str_str, SD.isa_str_tuple, SD.isa_str_list, SD.isa_tuple_int, SD.isa_tuple_bool, SD.isa_tuple_str, SD.isa_tuple_tuple, SD.isa_tuple_list, SD.isa_list_int, SD.isa_list_bool, SD.isa_list_str, SD.isa_list_tuple, SD.isa_list_list, List.length_cons, List.length_nil, List.map_cons, List.map_nil, List.set_cons_zero, List.set_cons_succ, List.replicate_succ, List.replicate_zero, List.cons_append, List.nil_append, List.zipWith_cons_cons, List.zipWith_nil_left, Nat.add_sub_cancel, Nat.reduceAdd, Nat.reduceSub, Nat.zero_add, Nat.sub_self, and_true, true_and, reduceCtorEq, if_true, if_false, ite_true, ite_false, Bool.false_eq_true, Bool.not_true, Bool.not_false, decide_eq_true_eq])
    refine ⟨⟨by decide, by decide⟩, ?_⟩
    refine trQ_self rfl (h _ ?_)
    rw [Int.fdiv_eq_ediv_of_nonneg _ (by decide)]
    exact Int.ediv_nonneg hm0 (by decide)
theorem setD_at {xs : List Int} {p v : Int} {R : Store} {Q : Store → Prop} : setD (.lref 1) (.int 0) (.int v) (dSt xs p R) Q = Q (dSt xs v R) := rfl
def sp_take : FnD := ⟨3, fun ds S _ Q => ∃ xs p R m, ds = [.lref 0, .lref 1, .int m] ∧ S = dSt xs p R ∧ (okX xs ∧ xs.length ≤ 1000000 ∧ 0 ≤ p ∧ p ≤ 1000000000 ∧ 0 < m) ∧ ∀ r, 0 ≤ r → r < m → Q (.int r) (dSt xs (p + 1) R)⟩
theorem cut_at {xs : List Int} {p v : Int} {R : Store} : cutS (dSt xs p R) (dSt xs v R) (dSt xs v R) := by
  refine ⟨Nat.le_refl _, ⟨[], by simp⟩, fun k c h => ?_⟩
  match k, h with
  | 0, h => exact .inl h
  | 1, h => cases h; exact .inr rfl
  | k + 2, h => exact .inl h
theorem h__law_take (T : Tab) (h1 : T.sp "_law_more" = some sp_more) : Meets sp_take N__law_take (t__law_take T) := by
  rintro ds S E Q hl ⟨xs, p, R, m, rfl, rfl, ⟨hx, hn, hp0, hp1, hm⟩, h⟩
  unfold t__law_take N__law_take
  have fin : ∀ r : Int, trQ (dSt xs p R) Q (.int (Int.fmod r m)) (dSt xs (p + 1) R) := fun r => by
    have := fmod_in (a := r) hm
    exact ⟨_, cut_at, rfl, h _ this.1 this.2⟩
  ((try simp only [SD.startD, List.length_cons, List.length_nil, List.map_cons, List.map_nil, List.replicate_succ, List.replicate_zero, List.cons_append, List.nil_append, Nat.reduceAdd, Nat.reduceSub, Nat.zero_add]); simp only [↓SD.ev_nil, ↓SD.ev_seq, ↓SD.ev_next, ↓SD.ev_break, ↓SD.ev_cont, ↓SD.ev_expr, ↓SD.ev_ret, ↓SD.ev_retN, ↓SD.ev_asg, ↓SD.ev_aug, ↓SD.ev_if, ↓SD.ev_for, ↓SD.ev_raise, ↓SD.ev_try, ↓SD.ev_var, ↓SD.ev_c, ↓SD.ev_glob, ↓SD.ev_tup, ↓SD.ev_lst, ↓SD.ev_bin, ↓SD.ev_un, ↓SD.ev_b1, ↓SD.ev_tE, ↓SD.ev_tNot, ↓SD.ev_tAnd, ↓SD.ev_tOr, ↓SD.ev_tYes, ↓SD.ev_not, ↓SD.ev_and, ↓SD.ev_or, ↓SD.ev_ifE, ↓SD.ev_cmp, ↓SD.ev_chain, ↓SD.ev_ix, ↓SD.ev_slice, ↓SD.ev_part1, ↓SD.ev_part0, ↓SD.ev_call, ↓SD.ev_callV, ↓SD.ev_app, ↓SD.ev_gVar, ↓SD.ev_gTup, ↓SD.ev_gIx, ↓SD.ev_iE, ↓SD.ev_iRange1, ↓SD.ev_iRange2, ↓SD.ev_iZip, ↓SD.ev_comp, ↓SD.ev_tupC, ↓SD.ev_allC, ↓SD.ev_anyC, ↓SD.ev_cComp, ↓SD.eList, ↓SD.gSeq, ↓SD.look_zero, ↓SD.look_succ, ↓SD.isa_non, ↓SD.isa_bl, ↓SD.isa_int, ↓SD.isa_str, ↓SD.isa_tup, ↓SD.isa_lref, ↓SD.ite_tt, ↓SD.ite_ff, SD.add_1, SD.add_2, SD.add_3, SD.add_4, SD.sub_1, SD.sub_2, SD.mul_1, SD.mul_2, SD.fdiv_1, SD.mod_1, SD.pow_1, SD.neg_1, SD.tr_non, SD.tr_bl, SD.tr_int, SD.tr_str, SD.tr_tup, SD.tr_lref, SD.lt_1, SD.le_1, SD.is_1, SD.is_2, SD.is_3, SD.is_4, SD.is_5, SD.is_6, SD.is_7, SD.cmp_eq, SD.cmp_ne, SD.cmp_lt, SD.cmp_le, SD.cmp_gt, SD.cmp_ge, SD.cmp_is, SD.cmp_isnot, SD.cmp_in, SD.cmp_notin, SD.eqk_int, SD.eqk_bl, SD.ix_tup, SD.ix_lref, SD.len_tup, SD.len_lref, SD.len_str, SD.abs_int, SD.int_int, SD.int_bl, SD.tuple_tup, SD.tuple_lref, SD.list_tup, SD.list_lref, SD.witer_tup, SD.witer_lref, SD.wzip_tup, SD.wipe_nil, SD.wipe_cons, SD.tru_nil, SD.tru_bl, SD.dE, SD.pairs, SD.allD, SD.anyD, SD.atI_0, SD.atI_1, SD.atI_2, SD.atI_3, SD.isa_NoneType_int, SD.isa_NoneType_bool, SD.isa_NoneType_str, SD.isa_NoneType_tuple, SD.isa_NoneType_list, SD.isa_bool_int, SD.isa_bool_bool, SD.isa_bool_str, SD.isa_bool_tuple, SD.isa_bool_list, SD.isa_int_int, SD.isa_int_bool, SD.isa_int_str, SD.isa_int_tuple, SD.isa_int_list, SD.isa_str_int, SD.isa_str_bool, SD.isa_str_str, SD.isa_str_tuple, SD.isa_str_list, SD.isa_tuple_int, SD.isa_tuple_bool, SD.isa_tuple_str, SD.isa_tuple_tuple, SD.isa_tuple_list, SD.isa_list_int, SD.isa_list_bool, SD.isa_list_str, SD.isa_list_tuple, SD.isa_list_list, List.length_cons, List.length_nil, List.map_cons, List.map_nil, List.set_cons_zero, List.set_cons_succ, List.replicate_succ, List.replicate_zero, List.cons_append, List.nil_append, List.zipWith_cons_cons, List.zipWith_nil_left, Nat.add_sub_cancel, Nat.reduceAdd, Nat.reduceSub, Nat.zero_add, Nat.sub_self, and_true, true_and, reduceCtorEq, if_true, if_false, ite_true, ite_false, Bool.false_eq_true, Bool.not_true, Bool.not_false, decide_eq_true_eq, cell_d0, cell_d1, setD_at, List.length_map])
  by_cases c : p < (xs.length : Int)
  · rw [if_pos c]
    obtain ⟨d, hdm, hda⟩ := atI_in (xs := xs.map D.int) hp0 (by rw [List.length_map]; exact c)
    obtain ⟨v, hv, rfl⟩ := List.mem_map.mp hdm
    ((try simp only [SD.startD, List.length_cons, List.length_nil, List.map_cons, List.map_nil, List.replicate_succ, List.replicate_zero, List.cons_append, List.nil_append, Nat.reduceAdd, Nat.reduceSub, Nat.zero_add]); simp only [↓SD.ev_nil, ↓SD.ev_seq, ↓SD.ev_next, ↓SD.ev_break, ↓SD.ev_cont, ↓SD.ev_expr, ↓SD.ev_ret, ↓SD.ev_retN, ↓SD.ev_asg, ↓SD.ev_aug, ↓SD.ev_if, ↓SD.ev_for, ↓SD.ev_raise, ↓SD.ev_try, ↓SD.ev_var, ↓SD.ev_c, ↓SD.ev_glob, ↓SD.ev_tup, ↓SD.ev_lst, ↓SD.ev_bin, ↓SD.ev_un, ↓SD.ev_b1, ↓SD.ev_tE, ↓SD.ev_tNot, ↓SD.ev_tAnd, ↓SD.ev_tOr, ↓SD.ev_tYes, ↓SD.ev_not, ↓SD.ev_and, ↓SD.ev_or, ↓SD.ev_ifE, ↓SD.ev_cmp, ↓SD.ev_chain, ↓SD.ev_ix, ↓SD.ev_slice, ↓SD.ev_part1, ↓SD.ev_part0, ↓SD.ev_call, ↓SD.ev_callV, ↓SD.ev_app, ↓SD.ev_gVar, ↓SD.ev_gTup, ↓SD.ev_gIx, ↓SD.ev_iE, ↓SD.ev_iRange1, ↓SD.ev_iRange2, ↓SD.ev_iZip, ↓SD.ev_comp, ↓SD.ev_tupC, ↓SD.ev_allC, ↓SD.ev_anyC, ↓SD.ev_cComp, ↓SD.eList, ↓SD.gSeq, ↓SD.look_zero, ↓SD.look_succ, ↓SD.isa_non, ↓SD.isa_bl, ↓SD.isa_int, ↓SD.isa_str, ↓SD.isa_tup, ↓SD.isa_lref, ↓SD.ite_tt, ↓SD.ite_ff, SD.add_1, SD.add_2, SD.add_3, SD.add_4, SD.sub_1, SD.sub_2, SD.mul_1, SD.mul_2, SD.fdiv_1, SD.mod_1, SD.pow_1, SD.neg_1, SD.tr_non, SD.tr_bl, SD.tr_int, SD.tr_str, SD.tr_tup, SD.tr_lref, SD.lt_1, SD.le_1, SD.is_1, SD.is_2, SD.is_3, SD.is_4, SD.is_5, SD.is_6, SD.is_7, SD.cmp_eq, SD.cmp_ne, SD.cmp_lt, SD.cmp_le, SD.cmp_gt, SD.cmp_ge, SD.cmp_is, SD.cmp_isnot, SD.cmp_in, SD.cmp_notin, SD.eqk_int, SD.eqk_bl, SD.ix_tup, SD.ix_lref, SD.len_tup, SD.len_lref, SD.len_str, SD.abs_int, SD.int_int, SD.int_bl, SD.tuple_tup, SD.tuple_lref, SD.list_tup, SD.list_lref, SD.witer_tup, SD.witer_lref, SD.wzip_tup, SD.wipe_nil, SD.wipe_cons, SD.tru_nil, SD.tru_bl, SD.dE, SD.pairs, SD.allD, SD.anyD, SD.atI_0, SD.atI_1, SD.atI_2, SD.atI_3, SD.isa_NoneType_int, SD.isa_NoneType_bool, SD.isa_NoneType_str, SD.isa_NoneType_tuple, SD.isa_NoneType_list, SD.isa_bool_int, SD.isa_bool_bool, SD.isa_bool_str, SD.isa_bool_tuple, SD.isa_bool_list, SD.isa_int_int, SD.isa_int_bool, SD.isa_int_str, SD.isa_int_tuple, SD.isa_int_list, SD.isa_str_int, SD.isa_str_bool, SD.isa_str_str, SD.isa_str_tuple, SD.isa_str_list, SD.isa_tuple_int, SD.isa_tuple_bool, SD.isa_tuple_str, SD.isa_tuple_tuple, SD.isa_tuple_list, SD.isa_list_int, SD.isa_list_bool, SD.isa_list_str, SD.isa_list_tuple, SD.isa_list_list, List.length_cons, List.length_nil, List.map_cons, List.map_nil, List.set_cons_zero, List.set_cons_succ, List.replicate_succ, List.replicate_zero, List.cons_append, List.nil_append, List.zipWith_cons_cons, List.zipWith_nil_left, Nat.add_sub_cancel, Nat.reduceAdd, Nat.reduceSub, Nat.zero_add, Nat.sub_self, and_true, true_and, reduceCtorEq, if_true, if_false, ite_true, ite_false, Bool.false_eq_true, Bool.not_true, Bool.not_false, decide_eq_true_eq, cell_d0, hda])
    exact ⟨by omega, fin v⟩
  · rw [if_neg c]
    ((try simp only [SD.startD, List.length_cons, List.length_nil, List.map_cons, List.map_nil, List.replicate_succ, List.replicate_zero, List.cons_append, List.nil_append, Nat.reduceAdd, Nat.reduceSub, Nat.zero_add]); simp only [↓SD.ev_nil, ↓SD.ev_seq, ↓SD.ev_next, ↓SD.ev_break, ↓SD.ev_cont, ↓SD.ev_expr, ↓SD.ev_ret, ↓SD.ev_retN, ↓SD.ev_asg, ↓SD.ev_aug, ↓SD.ev_if, ↓SD.ev_for, ↓SD.ev_raise, ↓SD.ev_try, ↓SD.ev_var, ↓SD.ev_c, ↓SD.ev_glob, ↓SD.ev_tup, ↓SD.ev_lst, ↓SD.ev_bin, ↓SD.ev_un, ↓SD.ev_b1, ↓SD.ev_tE, ↓SD.ev_tNot, ↓SD.ev_tAnd, ↓SD.ev_tOr, ↓SD.ev_tYes, ↓SD.ev_not, ↓SD.ev_and, ↓SD.ev_or, ↓SD.ev_ifE, ↓SD.ev_cmp, ↓SD.ev_chain, ↓SD.ev_ix, ↓SD.ev_slice, ↓SD.ev_part1, ↓SD.ev_part0, ↓SD.ev_call, ↓SD.ev_callV, ↓SD.ev_app, ↓SD.ev_gVar, ↓SD.ev_gTup, ↓SD.ev_gIx, ↓SD.ev_iE, ↓SD.ev_iRange1, ↓SD.ev_iRange2, ↓SD.ev_iZip, ↓SD.ev_comp, ↓SD.ev_tupC, ↓SD.ev_allC, ↓SD.ev_anyC, ↓SD.ev_cComp, ↓SD.eList, ↓SD.gSeq, ↓SD.look_zero, ↓SD.look_succ, ↓SD.isa_non, ↓SD.isa_bl, ↓SD.isa_int, ↓SD.isa_str, ↓SD.isa_tup, ↓SD.isa_lref, ↓SD.ite_tt, ↓SD.ite_ff, SD.add_1, SD.add_2, SD.add_3, SD.add_4, SD.sub_1, SD.sub_2, SD.mul_1, SD.mul_2, SD.fdiv_1, SD.mod_1, SD.pow_1, SD.neg_1, SD.tr_non, SD.tr_bl, SD.tr_int, SD.tr_str, SD.tr_tup, SD.tr_lref, SD.lt_1, SD.le_1, SD.is_1, SD.is_2, SD.is_3, SD.is_4, SD.is_5, SD.is_6, SD.is_7, SD.cmp_eq, SD.cmp_ne, SD.cmp_lt, SD.cmp_le, SD.cmp_gt, SD.cmp_ge, SD.cmp_is, SD.cmp_isnot, SD.cmp_in, SD.cmp_notin, SD.eqk_int, SD.eqk_bl, SD.ix_tup, SD.ix_lref, SD.len_tup, SD.len_lref, SD.len_str, SD.abs_int, SD.int_int, SD.int_bl, SD.tuple_tup, SD.tuple_lref, SD.list_tup, SD.list_lref, SD.witer_tup, SD.witer_lref, SD.wzip_tup, SD.wipe_nil, SD.wipe_cons, SD.tru_nil, SD.tru_bl, SD.dE, SD.pairs, SD.allD, SD.anyD, SD.atI_0, SD.atI_1, SD.atI_2, SD.atI_3, SD.isa_NoneType_int, SD.isa_NoneType_bool, SD.isa_NoneType_str, SD.isa_NoneType_tuple, SD.isa_NoneType_list, SD.isa_bool_int, SD.isa_bool_bool, SD.isa_bool_str, SD.isa_bool_tuple, SD.isa_bool_list, SD.isa_int_int, SD.isa_int_bool, SD.isa_int_str, SD.isa_int_tuple, SD.isa_int_list, SD.isa_str_int, SD.isa_str_bool, SD.isa_str_str, SD.isa_str_tuple, SD.isa_str_list, SD.isa_tuple_int, SD.isa_tuple_bool, SD.isa_tuple_str, SD.isa_tuple_tuple, SD.isa_tuple_list, SD.isa_list_int, SD.isa_list_bool, SD.isa_list_str, SD.isa_list_tuple, SD.isa_list_list, List.length_cons, List.length_nil, List.map_cons, List.map_nil, List.set_cons_zero, List.set_cons_succ, List.replicate_succ, List.replicate_zero, List.cons_append, List.nil_append, List.zipWith_cons_cons, List.zipWith_nil_left, Nat.add_sub_cancel, Nat.reduceAdd, Nat.reduceSub, Nat.zero_add, Nat.sub_self, and_true, true_and, reduceCtorEq, if_true, if_false, ite_true, ite_false, Bool.false_eq_true, Bool.not_true, Bool.not_false, decide_eq_true_eq, h1, sp_more])
    refine ⟨xs, p, p + 1, R, rfl, rfl, ⟨hx, hn, hp0, hp1⟩, fun r hr => ?_⟩
    exact ⟨by omega, fin r⟩
def sp_one : FnD := ⟨3, fun ds S _ Q => ∃ xs p R j ys, ds = [.lref (j + 2), .lref 0, .lref 1] ∧ S = dSt xs p R ∧ R[j]? = some (.lst ys) ∧ (okX xs ∧ xs.length ≤ 1000000 ∧ 0 ≤ p ∧ p ≤ 1000000000 ∧ ys ≠ [] ∧ clDs (R.length + 2) ys = true) ∧ ∀ d, d ∈ ys → Q d (dSt xs (p + 1) R)⟩
theorem cell_dR {xs : List Int} {p : Int} {R : Store} {j : Nat} {ys : List D} {Q : List D → Prop} (h : R[j]? = some (.lst ys)) : cellL (dSt xs p R) (j + 2) Q = Q ys := by
  have e : (dSt xs p R)[j + 2]? = some (.lst ys) := h
  exact cellL_known e
theorem cls_mem {n : Nat} : ∀ {ys : List D} {d : D}, clDs n ys = true → d ∈ ys → clD n d = true
  | [], _, _, m => by cases m
  | y :: ys, d, h, m => by
    have h' : (clD n y && clDs n ys) = true := h
    rw [Bool.and_eq_true] at h'
    rcases List.mem_cons.mp m with rfl | m
    · exact h'.1
    · exact cls_mem h'.2 m
theorem h__law_one (T : Tab) (h1 : T.sp "_law_take" = some sp_take) : Meets sp_one N__law_one (t__law_one T) := by
  rintro ds S E Q hl ⟨xs, p, R, j, ys, rfl, rfl, hj, ⟨hx, hn, hp0, hp1, hy, hcl⟩, h⟩
  unfold t__law_one N__law_one
  have hpos : 0 < ys.length := List.length_pos_iff.mpr hy
  ((try simp only [SD.startD, List.length_cons, List.length_nil, List.map_cons, List.map_nil, List.replicate_succ, List.replicate_zero, List.cons_append, List.nil_append, Nat.reduceAdd, Nat.reduceSub, Nat.zero_add]); simp only [↓SD.ev_nil, ↓SD.ev_seq, ↓SD.ev_next, ↓SD.ev_break, ↓SD.ev_cont, ↓SD.ev_expr, ↓SD.ev_ret, ↓SD.ev_retN, ↓SD.ev_asg, ↓SD.ev_aug, ↓SD.ev_if, ↓SD.ev_for, ↓SD.ev_raise, ↓SD.ev_try, ↓SD.ev_var, ↓SD.ev_c, ↓SD.ev_glob, ↓SD.ev_tup, ↓SD.ev_lst, ↓SD.ev_bin, ↓SD.ev_un, ↓SD.ev_b1, ↓SD.ev_tE, ↓SD.ev_tNot, ↓SD.ev_tAnd, ↓SD.ev_tOr, ↓SD.ev_tYes, ↓SD.ev_not, ↓SD.ev_and, ↓SD.ev_or, ↓SD.ev_ifE, ↓SD.ev_cmp, ↓SD.ev_chain, ↓SD.ev_ix, ↓SD.ev_slice, ↓SD.ev_part1, ↓SD.ev_part0, ↓SD.ev_call, ↓SD.ev_callV, ↓SD.ev_app, ↓SD.ev_gVar, ↓SD.ev_gTup, ↓SD.ev_gIx, ↓SD.ev_iE, ↓SD.ev_iRange1, ↓SD.ev_iRange2, ↓SD.ev_iZip, ↓SD.ev_comp, ↓SD.ev_tupC, ↓SD.ev_allC, ↓SD.ev_anyC, ↓SD.ev_cComp, ↓SD.eList, ↓SD.gSeq, ↓SD.look_zero, ↓SD.look_succ, ↓SD.isa_non, ↓SD.isa_bl, ↓SD.isa_int, ↓SD.isa_str, ↓SD.isa_tup, ↓SD.isa_lref, ↓SD.ite_tt, ↓SD.ite_ff, SD.add_1, SD.add_2, SD.add_3, SD.add_4, SD.sub_1, SD.sub_2, SD.mul_1, SD.mul_2, SD.fdiv_1, SD.mod_1, SD.pow_1, SD.neg_1, SD.tr_non, SD.tr_bl, SD.tr_int, SD.tr_str, SD.tr_tup, SD.tr_lref, SD.lt_1, SD.le_1, SD.is_1, SD.is_2, SD.is_3, SD.is_4, SD.is_5, SD.is_6, SD.is_7, SD.cmp_eq, SD.cmp_ne, SD.cmp_lt, SD.cmp_le, SD.cmp_gt, SD.cmp_ge, SD.cmp_is, SD.cmp_isnot, SD.cmp_in, SD.cmp_notin, SD.eqk_int, SD.eqk_bl, SD.ix_tup, SD.ix_lref, SD.len_tup, SD.len_lref, SD.len_str, SD.abs_int, SD.int_int, SD.int_bl, SD.tuple_tup, SD.tuple_lref, SD.list_tup, SD.list_lref, SD.witer_tup, SD.witer_lref, SD.wzip_tup, SD.wipe_nil, SD.wipe_cons, SD.tru_nil, SD.tru_bl, SD.dE, SD.pairs, SD.allD, SD.anyD, SD.atI_0, SD.atI_1, SD.atI_2, SD.atI_3, SD.isa_NoneType_int, SD.isa_NoneType_bool, SD.isa_NoneType_str, SD.isa_NoneType_tuple, SD.isa_NoneType_list, SD.isa_bool_int, SD.isa_bool_bool, SD.isa_bool_str, SD.isa_bool_tuple, SD.isa_bool_list, SD.isa_int_int, SD.isa_int_bool, SD.isa_int_str, SD.isa_int_tuple, SD.isa_int_list, SD.isa_str_int, SD.isa_str_bool, SD.isa_str_str, SD.isa_str_tuple, SD.isa_str_list, SD.isa_tuple_int, SD.isa_tuple_bool, SD.isa_tuple_str, SD.isa_tuple_tuple, SD.isa_tuple_list, SD.isa_list_int, SD.isa_list_bool, SD.isa_list_str, SD.isa_list_tuple, SD.isa_list_list, List.length_cons, List.length_nil, List.map_cons, List.map_nil, List.set_cons_zero, List.set_cons_succ, List.replicate_succ, List.replicate_zero, List.cons_append, List.nil_append, List.zipWith_cons_cons, List.zipWith_nil_left, Nat.add_sub_cancel, Nat.reduceAdd, Nat.reduceSub, Nat.zero_add, Nat.sub_self, and_true, true_and, reduceCtorEq, if_true, if_false, ite_true, ite_false, Bool.false_eq_true, Bool.not_true, Bool.not_false, decide_eq_true_eq, cell_dR hj, h1, sp_take])
  refine ⟨xs, p, R, (ys.length : Int), rfl, rfl, ⟨hx, hn, hp0, hp1, by omega⟩, fun r hr0 hr1 => ?_⟩
  obtain ⟨d, hdm, hda⟩ := atI_in (xs := ys) hr0 hr1
  ((try simp only [SD.startD, List.length_cons, List.length_nil, List.map_cons, List.map_nil, List.replicate_succ, List.replicate_zero, List.cons_append, List.nil_append, Nat.reduceAdd, Nat.reduceSub, Nat.zero_add]); simp only [↓SD.ev_nil, ↓SD.ev_seq, ↓SD.ev_next, ↓SD.ev_break, ↓SD.ev_cont, ↓SD.ev_expr, ↓SD.ev_ret, ↓SD.ev_retN, ↓SD.ev_asg, ↓SD.ev_aug, ↓SD.ev_if, ↓SD.ev_for, ↓SD.ev_raise, ↓SD.ev_try, ↓SD.ev_var, ↓SD.ev_c, ↓SD.ev_glob, ↓SD.ev_tup, ↓SD.ev_lst, ↓SD.ev_bin, ↓SD.ev_un, ↓SD.ev_b1, ↓SD.ev_tE, ↓SD.ev_tNot, ↓SD.ev_tAnd, ↓SD.ev_tOr, ↓SD.ev_tYes, ↓SD.ev_not, ↓SD.ev_and, ↓SD.ev_or, ↓SD.ev_ifE, ↓SD.ev_cmp, ↓SD.ev_chain, ↓SD.ev_ix, ↓SD.ev_slice, ↓SD.ev_part1, ↓SD.ev_part0, ↓SD.ev_call, ↓SD.ev_callV, ↓SD.ev_app, ↓SD.ev_gVar, ↓SD.ev_gTup, ↓SD.ev_gIx, ↓SD.ev_iE, ↓SD.ev_iRange1, ↓SD.ev_iRange2, ↓SD.ev_iZip, ↓SD.ev_comp, ↓SD.ev_tupC, ↓SD.ev_allC, ↓SD.ev_anyC, ↓SD.ev_cComp, ↓SD.eList, ↓SD.gSeq, ↓SD.look_zero, ↓SD.look_succ, ↓SD.isa_non, ↓SD.isa_bl, ↓SD.isa_int, ↓SD.isa_str, ↓SD.isa_tup, ↓SD.isa_lref, ↓SD.ite_tt, ↓SD.ite_ff, SD.add_1, SD.add_2, SD.add_3, SD.add_4, SD.sub_1, SD.sub_2, SD.mul_1, SD.mul_2, SD.fdiv_1, SD.mod_1, SD.pow_1, SD.neg_1, SD.tr_non, SD.tr_bl, SD.tr_int, SD.tr_str, SD.tr_tup, SD.tr_lref, SD.lt_1, SD.le_1, SD.is_1, SD.is_2, SD.is_3, SD.is_4, SD.is_5, SD.is_6, SD.is_7, SD.cmp_eq, SD.cmp_ne, SD.cmp_lt, SD.cmp_le, SD.cmp_gt, SD.cmp_ge, SD.cmp_is, SD.cmp_isnot, SD.cmp_in, SD.cmp_notin, SD.eqk_int, SD.eqk_bl, SD.ix_tup, SD.ix_lref, SD.len_tup, SD.len_lref, SD.len_str, SD.abs_int, SD.int_int, SD.int_bl, SD.tuple_tup, SD.tuple_lref, SD.list_tup, SD.list_lref, SD.witer_tup, SD.witer_lref, SD.wzip_tup, SD.wipe_nil, SD.wipe_cons, SD.tru_nil, SD.tru_bl, SD.dE, SD.pairs, SD.allD, SD.anyD, SD.atI_0, SD.atI_1, SD.atI_2, SD.atI_3, SD.isa_NoneType_int, SD.isa_NoneType_bool, SD.isa_NoneType_str, SD.isa_NoneType_tuple, SD.isa_NoneType_list, SD.isa_bool_int, SD.isa_bool_bool, SD.isa_bool_str, SD.isa_bool_tuple, SD.isa_bool_list, SD.isa_int_int, SD.isa_int_bool, SD.isa_int_str, SD.isa_int_tuple, SD.isa_int_list, SD.isa_str_int, SD.isa_str_bool, SD.isa_str_str, SD.isa_str_tuple, SD.isa_str_list, SD.isa_tuple_int, SD.isa_tuple_bool, SD.isa_tuple_str, SD.isa_tuple_tuple, SD.isa_tuple_list, SD.isa_list_int, SD.isa_list_bool, SD.isa_list_str, SD.isa_list_tuple, SD.isa_list_list, List.length_cons, List.length_nil, List.map_cons, List.map_nil, List.set_cons_zero, List.set_cons_succ, List.replicate_succ, List.replicate_zero, List.cons_append, List.nil_append, List.zipWith_cons_cons, List.zipWith_nil_left, Nat.add_sub_cancel, Nat.reduceAdd, Nat.reduceSub, Nat.zero_add, Nat.sub_self, and_true, true_and, reduceCtorEq, if_true, if_false, ite_true, ite_false, Bool.false_eq_true, Bool.not_true, Bool.not_false, decide_eq_true_eq, ix_lref, cell_dR hj, hda])
  exact ⟨_, cut_at, cls_mem (by simpa [dSt] using hcl) hdm, h d hdm⟩
end SP

-- SQd
set_option Elab.async false
set_option linter.all false
set_option maxRecDepth 100000
set_option maxHeartbeats 1000000
namespace SP
open PySem L2 SD SL
theorem dSt_app {xs : List Int} {p : Int} {R : Store} {c : Cell} : dSt xs p R ++ [c] = dSt xs p (R ++ [c]) := rfl
theorem dSt_len {xs : List Int} {p : Int} {R : Store} : (dSt xs p R).length = R.length + 2 := rfl
theorem cut_app {xs : List Int} {p v : Int} {R g : Store} : cutS (dSt xs p R) (dSt xs v (R ++ g)) (dSt xs v R) := by
  refine ⟨Nat.le_refl _, ⟨g, rfl⟩, fun k c h => ?_⟩
  match k, h with
  | 0, h => exact .inl h
  | 1, h => cases h; exact .inr rfl
  | k + 2, h => exact .inl h
theorem dSt_inj {xs ys : List Int} {p q : Int} {R R' : Store} (h : dSt xs p R = dSt ys q R') : xs = ys ∧ p = q ∧ R = R' := by
  unfold dSt at h
  injection h with h1 h
  injection h with h2 h3
  injection h1 with h1
  injection h2 with h2
  injection h2 with h2
  injection h2 with h2
  refine ⟨?_, h2, h3⟩
  have e := congrArg (List.map fun d : D => match d with
    | .int i => i
    | _ => 0) h1
  simpa [List.map_map, Function.comp_def] using e
theorem take_eq {xs : List Int} {p m : Int} {R : Store} {E : QX} {Q : QV} : sp_take.sp [.lref 0, .lref 1, .int m] (dSt xs p R) E Q = ((okX xs ∧ xs.length ≤ 1000000 ∧ 0 ≤ p ∧ p ≤ 1000000000 ∧ 0 < m) ∧ ∀ r, 0 ≤ r → r < m → Q (.int r) (dSt xs (p + 1) R)) := by
  refine propext ⟨fun ⟨ys, q, R', m', e1, e2, h⟩ => ?_, fun h => ⟨xs, p, R, m, rfl, rfl, h⟩⟩
  obtain ⟨rfl, rfl, rfl⟩ := dSt_inj e2
  cases e1
  exact h
theorem take_n : sp_take.n = 3 := rfl
theorem one_eq {xs : List Int} {p : Int} {R : Store} {k : Nat} {ys : List D} {E : QX} {Q : QV} (hk : R[k]? = some (.lst ys)) :
    ((okX xs ∧ xs.length ≤ 1000000 ∧ 0 ≤ p ∧ p ≤ 1000000000 ∧ ys ≠ [] ∧ clDs (R.length + 2) ys = true) ∧ ∀ d, d ∈ ys → Q d (dSt xs (p + 1) R)) → sp_one.sp [.lref (k + 2), .lref 0, .lref 1] (dSt xs p R) E Q :=
  fun h => ⟨xs, p, R, k, ys, rfl, rfl, hk, h⟩
theorem one_n : sp_one.n = 3 := rfl
end SP

-- SQe
set_option Elab.async false
set_option linter.all false
set_option maxRecDepth 100000
set_option maxHeartbeats 1000000
namespace SP
open PySem L2 SD SL
def sp_frac : FnD := ⟨3, fun ds S _ Q => ∃ xs p R w, ds = [.lref 0, .lref 1, .int w] ∧ S = dSt xs p R ∧ (okX xs ∧ xs.length ≤ 1000000 ∧ 0 ≤ p ∧ p ≤ 900000000 ∧ 1 ≤ w ∧ w ≤ 10) ∧ ∀ q p', smQ q → B 4 q → p ≤ p' → p' ≤ p + 3 → Q (fr q) (dSt xs p' R)⟩
theorem frac_ok {n d : Int} (h1 : n.natAbs ≤ 10) (h2 : 1 ≤ d) (h3 : d ≤ 4) : smQ (Rat.divInt n d) ∧ B 4 (Rat.divInt n d) := by
  have h := divInt_le (n := n) (d := d) (by omega)
  refine ⟨⟨by omega, by omega, by omega⟩, ?_⟩
  exact ⟨by omega, by omega⟩
theorem h__law_fraction (T : Tab) (h1 : T.sp "_law_take" = some sp_take) (h2 : T.sp "_law_one" = some sp_one) (h3 : T.sp "_law_made" = some sp_made) : Meets sp_frac N__law_fraction (t__law_fraction T) := by
  rintro ds S E Q hl ⟨xs, p, R, w, rfl, rfl, ⟨hx, hn, hp0, hp1, hw0, hw1⟩, h⟩
  unfold t__law_fraction N__law_fraction
  ((try simp only [SD.startD, List.length_cons, List.length_nil, List.map_cons, List.map_nil, List.replicate_succ, List.replicate_zero, List.cons_append, List.nil_append, Nat.reduceAdd, Nat.reduceSub, Nat.zero_add]); simp only [↓SD.ev_nil, ↓SD.ev_seq, ↓SD.ev_next, ↓SD.ev_break, ↓SD.ev_cont, ↓SD.ev_expr, ↓SD.ev_ret, ↓SD.ev_retN, ↓SD.ev_asg, ↓SD.ev_aug, ↓SD.ev_if, ↓SD.ev_for, ↓SD.ev_raise, ↓SD.ev_try, ↓SD.ev_var, ↓SD.ev_c, ↓SD.ev_glob, ↓SD.ev_tup, ↓SD.ev_lst, ↓SD.ev_bin, ↓SD.ev_un, ↓SD.ev_b1, ↓SD.ev_tE, ↓SD.ev_tNot, ↓SD.ev_tAnd, ↓SD.ev_tOr, ↓SD.ev_tYes, ↓SD.ev_not, ↓SD.ev_and, ↓SD.ev_or, ↓SD.ev_ifE, ↓SD.ev_cmp, ↓SD.ev_chain, ↓SD.ev_ix, ↓SD.ev_slice, ↓SD.ev_part1, ↓SD.ev_part0, ↓SD.ev_call, ↓SD.ev_callV, ↓SD.ev_app, ↓SD.ev_gVar, ↓SD.ev_gTup, ↓SD.ev_gIx, ↓SD.ev_iE, ↓SD.ev_iRange1, ↓SD.ev_iRange2, ↓SD.ev_iZip, ↓SD.ev_comp, ↓SD.ev_tupC, ↓SD.ev_allC, ↓SD.ev_anyC, ↓SD.ev_cComp, ↓SD.eList, ↓SD.gSeq, ↓SD.look_zero, ↓SD.look_succ, ↓SD.isa_non, ↓SD.isa_bl, ↓SD.isa_int, ↓SD.isa_str, ↓SD.isa_tup, ↓SD.isa_lref, ↓SD.ite_tt, ↓SD.ite_ff, SD.add_1, SD.add_2, SD.add_3, SD.add_4, SD.sub_1, SD.sub_2, SD.mul_1, SD.mul_2, SD.fdiv_1, SD.mod_1, SD.pow_1, SD.neg_1, SD.tr_non, SD.tr_bl, SD.tr_int, SD.tr_str, SD.tr_tup, SD.tr_lref, SD.lt_1, SD.le_1, SD.is_1, SD.is_2, SD.is_3, SD.is_4, SD.is_5, SD.is_6, SD.is_7, SD.cmp_eq, SD.cmp_ne, SD.cmp_lt, SD.cmp_le, SD.cmp_gt, SD.cmp_ge, SD.cmp_is, SD.cmp_isnot, SD.cmp_in, SD.cmp_notin, SD.eqk_int, SD.eqk_bl, SD.ix_tup, SD.ix_lref, SD.len_tup, SD.len_lref, SD.len_str, SD.abs_int, SD.int_int, SD.int_bl, SD.tuple_tup, SD.tuple_lref, SD.list_tup, SD.list_lref, SD.witer_tup, SD.witer_lref, SD.wzip_tup, SD.wipe_nil, SD.wipe_cons, SD.tru_nil, SD.tru_bl, SD.dE, SD.pairs, SD.allD, SD.anyD, SD.atI_0, SD.atI_1, SD.atI_2, SD.atI_3, SD.isa_NoneType_int, SD.isa_NoneType_bool, SD.isa_NoneType_str, SD.isa_NoneType_tuple, SD.isa_NoneType_list, SD.isa_bool_int, SD.isa_bool_bool, SD.isa_bool_str, SD.isa_bool_tuple, SD.isa_bool_list, SD.isa_int_int, SD.isa_int_bool, SD.isa_int_str, SD.isa_int_tuple, SD.isa_int_list, SD.isa_str_int, SD.isa_str_bool, SD.isa_str_str, SD.isa_str_tuple, SD.isa_str_list, SD.isa_tuple_int, SD.isa_tuple_bool, SD.isa_tuple_str, SD.isa_tuple_tuple, SD.isa_tuple_list, SD.isa_list_int, SD.isa_list_bool, SD.isa_list_str, SD.isa_list_tuple, SD.isa_list_list, List.length_cons, List.length_nil, List.map_cons, List.map_nil, List.set_cons_zero, List.set_cons_succ, List.replicate_succ, List.replicate_zero, List.cons_append, List.nil_append, List.zipWith_cons_cons, List.zipWith_nil_left, Nat.add_sub_cancel, Nat.reduceAdd, Nat.reduceSub, Nat.zero_add, Nat.sub_self, and_true, true_and, reduceCtorEq, if_true, if_false, ite_true, ite_false, Bool.false_eq_true, Bool.not_true, Bool.not_false, decide_eq_true_eq, h1, h2, h3, take_eq, take_n, one_n, dSt_app, dSt_len])
  refine ⟨rfl, mulOk_small (by decide) (by omega), ⟨hx, hn, hp0, by omega, by omega⟩, fun r hr0 hr1 => ?_⟩
  refine one_eq (k := R.length) (ys := [.int 1, .int 1, .int 4]) (R := R ++ [.lst [.int 1, .int 1, .int 4]]) (by simp) ?_
  refine ⟨⟨hx, hn, by omega, by omega, by simp, rfl⟩, fun d hd => ?_⟩
  have hd' : d = .int 1 ∨ d = .int 4 := by simpa using hd
  have go : ∀ m : Int, 1 ≤ m → m ≤ 4 → sp_take.sp [.lref 0, .lref 1, .int m] (dSt xs (p + 1 + 1) (R ++ [.lst [.int 1, .int 1, .int 4]])) (fun x S1 => trE (dSt xs p R) E x S1) fun y S2 => addD (.int 1) y S2 fun d S1 => sp_made.sp [.int (r - w), d] S1 (fun x S1 => trE (dSt xs p R) E x S1) (trQ (dSt xs p R) Q) := fun m hm0 hm1 => by
    rw [take_eq]
    refine ⟨⟨hx, hn, by omega, by omega, by omega⟩, fun s hs0 hs1 => ?_⟩
    ((try simp only [SD.startD, List.length_cons, List.length_nil, List.map_cons, List.map_nil, List.replicate_succ, List.replicate_zero, List.cons_append, List.nil_append, Nat.reduceAdd, Nat.reduceSub, Nat.zero_add]); simp only [↓SD.ev_nil, ↓SD.ev_seq, ↓SD.ev_next, ↓SD.ev_break, ↓SD.ev_cont, ↓SD.ev_expr, ↓SD.ev_ret, ↓SD.ev_retN, ↓SD.ev_asg, ↓SD.ev_aug, ↓SD.ev_if, ↓SD.ev_for, ↓SD.ev_raise, ↓SD.ev_try, ↓SD.ev_var, ↓SD.ev_c, ↓SD.ev_glob, ↓SD.ev_tup, ↓SD.ev_lst, ↓SD.ev_bin, ↓SD.ev_un, ↓SD.ev_b1, ↓SD.ev_tE, ↓SD.ev_tNot, ↓SD.ev_tAnd, ↓SD.ev_tOr, ↓SD.ev_tYes, ↓SD.ev_not, ↓SD.ev_and, ↓SD.ev_or, ↓SD.ev_ifE, ↓SD.ev_cmp, ↓SD.ev_chain, ↓SD.ev_ix, ↓SD.ev_slice, ↓SD.ev_part1, ↓SD.ev_part0, ↓SD.ev_call, ↓SD.ev_callV, ↓SD.ev_app, ↓SD.ev_gVar, ↓SD.ev_gTup, ↓SD.ev_gIx, ↓SD.ev_iE, ↓SD.ev_iRange1, ↓SD.ev_iRange2, ↓SD.ev_iZip, ↓SD.ev_comp, ↓SD.ev_tupC, ↓SD.ev_allC, ↓SD.ev_anyC, ↓SD.ev_cComp, ↓SD.eList, ↓SD.gSeq, ↓SD.look_zero, ↓SD.look_succ, ↓SD.isa_non, ↓SD.isa_bl, ↓SD.isa_int, ↓SD.isa_str, ↓SD.isa_tup, ↓SD.isa_lref, ↓SD.ite_tt, ↓SD.ite_ff, SD.add_1, SD.add_2, SD.add_3, SD.add_4, SD.sub_1, SD.sub_2, SD.mul_1, SD.mul_2, SD.fdiv_1, SD.mod_1, SD.pow_1, SD.neg_1, SD.tr_non, SD.tr_bl, SD.tr_int, SD.tr_str, SD.tr_tup, SD.tr_lref, SD.lt_1, SD.le_1, SD.is_1, SD.is_2, SD.is_3, SD.is_4, SD.is_5, SD.is_6, SD.is_7, SD.cmp_eq, SD.cmp_ne, SD.cmp_lt, SD.cmp_le, SD.cmp_gt, SD.cmp_ge, SD.cmp_is, SD.cmp_isnot, SD.cmp_in, SD.cmp_notin, SD.eqk_int, SD.eqk_bl, SD.ix_tup, SD.ix_lref, SD.len_tup, SD.len_lref, SD.len_str, SD.abs_int, SD.int_int, SD.int_bl, SD.tuple_tup, SD.tuple_lref, SD.list_tup, SD.list_lref, SD.witer_tup, SD.witer_lref, SD.wzip_tup, SD.wipe_nil, SD.wipe_cons, SD.tru_nil, SD.tru_bl, SD.dE, SD.pairs, SD.allD, SD.anyD, SD.atI_0, SD.atI_1, SD.atI_2, SD.atI_3, SD.isa_NoneType_int, SD.isa_NoneType_bool, SD.isa_NoneType_str, SD.isa_NoneType_tuple, SD.isa_NoneType_list, SD.isa_bool_int, SD.isa_bool_bool, SD.isa_bool_str, SD.isa_bool_tuple, SD.isa_bool_list, SD.isa_int_int, SD.isa_int_bool, SD.isa_int_str, SD.isa_int_tuple, SD.isa_int_list, SD.isa_str_int, SD.isa_str_bool, SD.isa_str_str, SD.isa_str_tuple, SD.isa_str_list, SD.isa_tuple_int, SD.isa_tuple_bool, SD.isa_tuple_str, SD.isa_tuple_tuple, SD.isa_tuple_list, SD.isa_list_int, SD.isa_list_bool, SD.isa_list_str, SD.isa_list_tuple, SD.isa_list_list, List.length_cons, List.length_nil, List.map_cons, List.map_nil, List.set_cons_zero, List.set_cons_succ, List.replicate_succ, List.replicate_zero, List.cons_append, List.nil_append, List.zipWith_cons_cons, List.zipWith_nil_left, Nat.add_sub_cancel, Nat.reduceAdd, Nat.reduceSub, Nat.zero_add, Nat.sub_self, and_true, true_and, reduceCtorEq, if_true, if_false, ite_true, ite_false, Bool.false_eq_true, Bool.not_true, Bool.not_false, decide_eq_true_eq, sp_made])
    have f := frac_ok (n := r - w) (d := 1 + s) (by omega) (by omega) (by omega)
    exact ⟨⟨by omega, Nat.lt_of_le_of_lt (show (1 + s).natAbs ≤ 4 by omega) (Nat.lt_of_lt_of_le (show 4 < 2 ^ 3 by decide) (Nat.pow_le_pow_right (by decide) (by decide)))⟩, _, cut_app, rfl, h _ _ f.1 f.2 (by omega) (by omega)⟩
  rcases hd' with rfl | rfl
  · exact go 1 (by decide) (by decide)
  · exact go 4 (by decide) (by decide)
end SP

-- SQf
set_option Elab.async false
set_option linter.all false
set_option maxRecDepth 100000
set_option maxHeartbeats 1000000
namespace SP
open PySem L2 SD SL
theorem frac_eq {xs : List Int} {p w : Int} {R : Store} {E : QX} {Q : QV} : sp_frac.sp [.lref 0, .lref 1, .int w] (dSt xs p R) E Q = ((okX xs ∧ xs.length ≤ 1000000 ∧ 0 ≤ p ∧ p ≤ 900000000 ∧ 1 ≤ w ∧ w ≤ 10) ∧ ∀ q p', smQ q → B 4 q → p ≤ p' → p' ≤ p + 3 → Q (fr q) (dSt xs p' R)) := by
  refine propext ⟨fun ⟨ys, q, R', m', e1, e2, h⟩ => ?_, fun h => ⟨xs, p, R, w, rfl, rfl, h⟩⟩
  obtain ⟨rfl, rfl, rfl⟩ := dSt_inj e2
  cases e1
  exact h
theorem frac_n : sp_frac.n = 3 := rfl
def sp_lway : FnD := ⟨3, fun ds S _ Q => ∃ xs p R w, ds = [.int w, .lref 0, .lref 1] ∧ S = dSt xs p R ∧ (okX xs ∧ xs.length ≤ 1000000 ∧ 0 ≤ p ∧ p ≤ 800000000 ∧ 1 ≤ w ∧ w ≤ 10) ∧ ∀ v p', smW v → BW 4 v → p ≤ p' → p' ≤ p + 12 → Q (wy v) (dSt xs p' R)⟩
theorem sm_0 : smQ 0 ∧ B 4 0 := ⟨⟨by decide, by decide, by decide⟩, B_of B_0 (by decide)⟩
/-- one part of a drawn way -/
theorem part_ok {T : Tab} {xs : List Int} {p w : Int} {R : Store} {x : Option D} {K : D → Store → Prop} (h1 : T.sp "_law_take" = some sp_take) (h2 : T.sp "_law_fraction" = some sp_frac) (hx : okX xs) (hn : xs.length ≤ 1000000) (hp0 : 0 ≤ p) (hp1 : p ≤ 890000000) (hw0 : 1 ≤ w) (hw1 : w ≤ 10)
    (h : ∀ q p', smQ q → B 4 q → p ≤ p' → p' ≤ p + 4 → K (fr q) (dSt xs p' R)) :
    eIf (tE (eCmp .eq (eCall T "_law_take" [eVar 1, eVar 2, eC (.int 4)]) (eC (.int 0)))) (eTup [eC (.int 0), eC (.int 1)]) (eCall T "_law_fraction" [eVar 1, eVar 2, eVar 0]) [some (.int w), some (.lref 0), some (.lref 1), x] (dSt xs p R) noX K := by
  ((try simp only [SD.startD, List.length_cons, List.length_nil, List.map_cons, List.map_nil, List.replicate_succ, List.replicate_zero, List.cons_append, List.nil_append, Nat.reduceAdd, Nat.reduceSub, Nat.zero_add]); simp only [↓SD.ev_nil, ↓SD.ev_seq, ↓SD.ev_next, ↓SD.ev_break, ↓SD.ev_cont, ↓SD.ev_expr, ↓SD.ev_ret, ↓SD.ev_retN, ↓SD.ev_asg, ↓SD.ev_aug, ↓SD.ev_if, ↓SD.ev_for, ↓SD.ev_raise, ↓SD.ev_try, ↓SD.ev_var, ↓SD.ev_c, ↓SD.ev_glob, ↓SD.ev_tup, ↓SD.ev_lst, ↓SD.ev_bin, ↓SD.ev_un, ↓SD.ev_b1, ↓SD.ev_tE, ↓SD.ev_tNot, ↓SD.ev_tAnd, ↓SD.ev_tOr, ↓SD.ev_tYes, ↓SD.ev_not, ↓SD.ev_and, ↓SD.ev_or, ↓SD.ev_ifE, ↓SD.ev_cmp, ↓SD.ev_chain, ↓SD.ev_ix, ↓SD.ev_slice, ↓SD.ev_part1, ↓SD.ev_part0, ↓SD.ev_call, ↓SD.ev_callV, ↓SD.ev_app, ↓SD.ev_gVar, ↓SD.ev_gTup, ↓SD.ev_gIx, ↓SD.ev_iE, ↓SD.ev_iRange1, ↓SD.ev_iRange2, ↓SD.ev_iZip, ↓SD.ev_comp, ↓SD.ev_tupC, ↓SD.ev_allC, ↓SD.ev_anyC, ↓SD.ev_cComp, ↓SD.eList, ↓SD.gSeq, ↓SD.look_zero, ↓SD.look_succ, ↓SD.isa_non, ↓SD.isa_bl, ↓SD.isa_int, ↓SD.isa_str, ↓SD.isa_tup, ↓SD.isa_lref, ↓SD.ite_tt, ↓SD.ite_ff, SD.add_1, SD.add_2, SD.add_3, SD.add_4, SD.sub_1, SD.sub_2, SD.mul_1, SD.mul_2, SD.fdiv_1, SD.mod_1, SD.pow_1, SD.neg_1, SD.tr_non, SD.tr_bl, SD.tr_int, SD.tr_str, SD.tr_tup, SD.tr_lref, SD.lt_1, SD.le_1, SD.is_1, SD.is_2, SD.is_3, SD.is_4, SD.is_5, SD.is_6, SD.is_7, SD.cmp_eq, SD.cmp_ne, SD.cmp_lt, SD.cmp_le, SD.cmp_gt, SD.cmp_ge, SD.cmp_is, SD.cmp_isnot, SD.cmp_in, SD.cmp_notin, SD.eqk_int, SD.eqk_bl, SD.ix_tup, SD.ix_lref, SD.len_tup, SD.len_lref, SD.len_str, SD.abs_int, SD.int_int, SD.int_bl, SD.tuple_tup, SD.tuple_lref, SD.list_tup, SD.list_lref, SD.witer_tup, SD.witer_lref, SD.wzip_tup, SD.wipe_nil, SD.wipe_cons, SD.tru_nil, SD.tru_bl, SD.dE, SD.pairs, SD.allD, SD.anyD, SD.atI_0, SD.atI_1, SD.atI_2, SD.atI_3, SD.isa_NoneType_int, SD.isa_NoneType_bool, SD.isa_NoneType_str, SD.isa_NoneType_tuple, SD.isa_NoneType_list, SD.isa_bool_int, SD.isa_bool_bool, SD.isa_bool_str, SD.isa_bool_tuple, SD.isa_bool_list, SD.isa_int_int, SD.isa_int_bool, SD.isa_int_str, SD.isa_int_tuple, SD.isa_int_list, SD.isa_str_int, SD.isa_str_bool, SD.isa_str_str, SD.isa_str_tuple, SD.isa_str_list, SD.isa_tuple_int, SD.isa_tuple_bool, SD.isa_tuple_str, SD.isa_tuple_tuple, SD.isa_tuple_list, SD.isa_list_int, SD.isa_list_bool, SD.isa_list_str, SD.isa_list_tuple, SD.isa_list_list, List.length_cons, List.length_nil, List.map_cons, List.map_nil, List.set_cons_zero, List.set_cons_succ, List.replicate_succ, List.replicate_zero, List.cons_append, List.nil_append, List.zipWith_cons_cons, List.zipWith_nil_left, Nat.add_sub_cancel, Nat.reduceAdd, Nat.reduceSub, Nat.zero_add, Nat.sub_self, and_true, true_and, reduceCtorEq, if_true, if_false, ite_true, ite_false, Bool.false_eq_true, Bool.not_true, Bool.not_false, decide_eq_true_eq, h1, h2, take_eq, take_n, eqk_int])
  refine ⟨⟨hx, hn, hp0, by omega⟩, fun r hr0 hr1 => ?_⟩
  by_cases c : r = 0
  · ((try simp only [SD.startD, List.length_cons, List.length_nil, List.map_cons, List.map_nil, List.replicate_succ, List.replicate_zero, List.cons_append, List.nil_append, Nat.reduceAdd, Nat.reduceSub, Nat.zero_add]); simp only [↓SD.ev_nil, ↓SD.ev_seq, ↓SD.ev_next, ↓SD.ev_break, ↓SD.ev_cont, ↓SD.ev_expr, ↓SD.ev_ret, ↓SD.ev_retN, ↓SD.ev_asg, ↓SD.ev_aug, ↓SD.ev_if, ↓SD.ev_for, ↓SD.ev_raise, ↓SD.ev_try, ↓SD.ev_var, ↓SD.ev_c, ↓SD.ev_glob, ↓SD.ev_tup, ↓SD.ev_lst, ↓SD.ev_bin, ↓SD.ev_un, ↓SD.ev_b1, ↓SD.ev_tE, ↓SD.ev_tNot, ↓SD.ev_tAnd, ↓SD.ev_tOr, ↓SD.ev_tYes, ↓SD.ev_not, ↓SD.ev_and, ↓SD.ev_or, ↓SD.ev_ifE, ↓SD.ev_cmp, ↓SD.ev_chain, ↓SD.ev_ix, ↓SD.ev_slice, ↓SD.ev_part1, ↓SD.ev_part0, ↓SD.ev_call, ↓SD.ev_callV, ↓SD.ev_app, ↓SD.ev_gVar, ↓SD.ev_gTup, ↓SD.ev_gIx, ↓SD.ev_iE, ↓SD.ev_iRange1, ↓SD.ev_iRange2, ↓SD.ev_iZip, ↓SD.ev_comp, ↓SD.ev_tupC, ↓SD.ev_allC, ↓SD.ev_anyC, ↓SD.ev_cComp, ↓SD.eList, ↓SD.gSeq, ↓SD.look_zero, ↓SD.look_succ, ↓SD.isa_non, ↓SD.isa_bl, ↓SD.isa_int, ↓SD.isa_str, ↓SD.isa_tup, ↓SD.isa_lref, ↓SD.ite_tt, ↓SD.ite_ff, SD.add_1, SD.add_2, SD.add_3, SD.add_4, SD.sub_1, SD.sub_2, SD.mul_1, SD.mul_2, SD.fdiv_1, SD.mod_1, SD.pow_1, SD.neg_1, SD.tr_non, SD.tr_bl, SD.tr_int, SD.tr_str, SD.tr_tup, SD.tr_lref, SD.lt_1, SD.le_1, SD.is_1, SD.is_2, SD.is_3, SD.is_4, SD.is_5, SD.is_6, SD.is_7, SD.cmp_eq, SD.cmp_ne, SD.cmp_lt, SD.cmp_le, SD.cmp_gt, SD.cmp_ge, SD.cmp_is, SD.cmp_isnot, SD.cmp_in, SD.cmp_notin, SD.eqk_int, SD.eqk_bl, SD.ix_tup, SD.ix_lref, SD.len_tup, SD.len_lref, SD.len_str, SD.abs_int, SD.int_int, SD.int_bl, SD.tuple_tup, SD.tuple_lref, SD.list_tup, SD.list_lref, SD.witer_tup, SD.witer_lref, SD.wzip_tup, SD.wipe_nil, SD.wipe_cons, SD.tru_nil, SD.tru_bl, SD.dE, SD.pairs, SD.allD, SD.anyD, SD.atI_0, SD.atI_1, SD.atI_2, SD.atI_3, SD.isa_NoneType_int, SD.isa_NoneType_bool, SD.isa_NoneType_str, SD.isa_NoneType_tuple, SD.isa_NoneType_list, SD.isa_bool_int, SD.isa_bool_bool, SD.isa_bool_str, SD.isa_bool_tuple, SD.isa_bool_list, SD.isa_int_int, SD.isa_int_bool, SD.isa_int_str, SD.isa_int_tuple, SD.isa_int_list, SD.isa_str_int, SD.isa_str_bool, SD.isa_str_str, SD.isa_str_tuple, SD.isa_str_list, SD.isa_tuple_int, SD.isa_tuple_bool, SD.isa_tuple_str, SD.isa_tuple_tuple, SD.isa_tuple_list, SD.isa_list_int, SD.isa_list_bool, SD.isa_list_str, SD.isa_list_tuple, SD.isa_list_list, List.length_cons, List.length_nil, List.map_cons, List.map_nil, List.set_cons_zero, List.set_cons_succ, List.replicate_succ, List.replicate_zero, List.cons_append, List.nil_append, List.zipWith_cons_cons, List.zipWith_nil_left, Nat.add_sub_cancel, Nat.reduceAdd, Nat.reduceSub, Nat.zero_add, Nat.sub_self, and_true, true_and, reduceCtorEq, if_true, if_false, ite_true, ite_false, Bool.false_eq_true, Bool.not_true, Bool.not_false, decide_eq_true_eq, c, fr_int])
    rw [Rat.intCast_zero]
    exact h 0 _ sm_0.1 sm_0.2 (by omega) (by omega)
  · ((try simp only [SD.startD, List.length_cons, List.length_nil, List.map_cons, List.map_nil, List.replicate_succ, List.replicate_zero, List.cons_append, List.nil_append, Nat.reduceAdd, Nat.reduceSub, Nat.zero_add]); simp only [↓SD.ev_nil, ↓SD.ev_seq, ↓SD.ev_next, ↓SD.ev_break, ↓SD.ev_cont, ↓SD.ev_expr, ↓SD.ev_ret, ↓SD.ev_retN, ↓SD.ev_asg, ↓SD.ev_aug, ↓SD.ev_if, ↓SD.ev_for, ↓SD.ev_raise, ↓SD.ev_try, ↓SD.ev_var, ↓SD.ev_c, ↓SD.ev_glob, ↓SD.ev_tup, ↓SD.ev_lst, ↓SD.ev_bin, ↓SD.ev_un, ↓SD.ev_b1, ↓SD.ev_tE, ↓SD.ev_tNot, ↓SD.ev_tAnd, ↓SD.ev_tOr, ↓SD.ev_tYes, ↓SD.ev_not, ↓SD.ev_and, ↓SD.ev_or, ↓SD.ev_ifE, ↓SD.ev_cmp, ↓SD.ev_chain, ↓SD.ev_ix, ↓SD.ev_slice, ↓SD.ev_part1, ↓SD.ev_part0, ↓SD.ev_call, ↓SD.ev_callV, ↓SD.ev_app, ↓SD.ev_gVar, ↓SD.ev_gTup, ↓SD.ev_gIx, ↓SD.ev_iE, ↓SD.ev_iRange1, ↓SD.ev_iRange2, ↓SD.ev_iZip, ↓SD.ev_comp, ↓SD.ev_tupC, ↓SD.ev_allC, ↓SD.ev_anyC, ↓SD.ev_cComp, ↓SD.eList, ↓SD.gSeq, ↓SD.look_zero, ↓SD.look_succ, ↓SD.isa_non, ↓SD.isa_bl, ↓SD.isa_int, ↓SD.isa_str, ↓SD.isa_tup, ↓SD.isa_lref, ↓SD.ite_tt, ↓SD.ite_ff, SD.add_1, SD.add_2, SD.add_3, SD.add_4, SD.sub_1, SD.sub_2, SD.mul_1, SD.mul_2, SD.fdiv_1, SD.mod_1, SD.pow_1, SD.neg_1, SD.tr_non, SD.tr_bl, SD.tr_int, SD.tr_str, SD.tr_tup, SD.tr_lref, SD.lt_1, SD.le_1, SD.is_1, SD.is_2, SD.is_3, SD.is_4, SD.is_5, SD.is_6, SD.is_7, SD.cmp_eq, SD.cmp_ne, SD.cmp_lt, SD.cmp_le, SD.cmp_gt, SD.cmp_ge, SD.cmp_is, SD.cmp_isnot, SD.cmp_in, SD.cmp_notin, SD.eqk_int, SD.eqk_bl, SD.ix_tup, SD.ix_lref, SD.len_tup, SD.len_lref, SD.len_str, SD.abs_int, SD.int_int, SD.int_bl, SD.tuple_tup, SD.tuple_lref, SD.list_tup, SD.list_lref, SD.witer_tup, SD.witer_lref, SD.wzip_tup, SD.wipe_nil, SD.wipe_cons, SD.tru_nil, SD.tru_bl, SD.dE, SD.pairs, SD.allD, SD.anyD, SD.atI_0, SD.atI_1, SD.atI_2, SD.atI_3, SD.isa_NoneType_int, SD.isa_NoneType_bool, SD.isa_NoneType_str, SD.isa_NoneType_tuple, SD.isa_NoneType_list, SD.isa_bool_int, SD.isa_bool_bool, SD.isa_bool_str, SD.isa_bool_tuple, SD.isa_bool_list, SD.isa_int_int, SD.isa_int_bool, SD.isa_int_str, SD.isa_int_tuple, SD.isa_int_list, SD.isa_str_int, SD.isa_str_bool, SD.isa_str_str, SD.isa_str_tuple, SD.isa_str_list, SD.isa_tuple_int, SD.isa_tuple_bool, SD.isa_tuple_str, SD.isa_tuple_tuple, SD.isa_tuple_list, SD.isa_list_int, SD.isa_list_bool, SD.isa_list_str, SD.isa_list_tuple, SD.isa_list_list, List.length_cons, List.length_nil, List.map_cons, List.map_nil, List.set_cons_zero, List.set_cons_succ, List.replicate_succ, List.replicate_zero, List.cons_append, List.nil_append, List.zipWith_cons_cons, List.zipWith_nil_left, Nat.add_sub_cancel, Nat.reduceAdd, Nat.reduceSub, Nat.zero_add, Nat.sub_self, and_true, true_and, reduceCtorEq, if_true, if_false, ite_true, ite_false, Bool.false_eq_true, Bool.not_true, Bool.not_false, decide_eq_true_eq, c, frac_eq, frac_n])
    exact ⟨⟨hx, hn, by omega, by omega, hw0, hw1⟩, fun q p' a b c d => h q p' a b (by omega) (by omega)⟩
theorem h__law_way (T : Tab) (h1 : T.sp "_law_take" = some sp_take) (h2 : T.sp "_law_fraction" = some sp_frac) : Meets sp_lway N__law_way (t__law_way T) := by
  rintro ds S E Q hl ⟨xs, p, R, w, rfl, rfl, ⟨hx, hn, hp0, hp1, hw0, hw1⟩, h⟩
  unfold t__law_way N__law_way
  ((try simp only [SD.startD, List.length_cons, List.length_nil, List.map_cons, List.map_nil, List.replicate_succ, List.replicate_zero, List.cons_append, List.nil_append, Nat.reduceAdd, Nat.reduceSub, Nat.zero_add]); simp only [↓SD.ev_nil, ↓SD.ev_seq, ↓SD.ev_next, ↓SD.ev_break, ↓SD.ev_cont, ↓SD.ev_expr, ↓SD.ev_ret, ↓SD.ev_retN, ↓SD.ev_asg, ↓SD.ev_aug, ↓SD.ev_if, ↓SD.ev_for, ↓SD.ev_raise, ↓SD.ev_try, ↓SD.ev_var, ↓SD.ev_c, ↓SD.ev_glob, ↓SD.ev_tup, ↓SD.ev_lst, ↓SD.ev_bin, ↓SD.ev_un, ↓SD.ev_b1, ↓SD.ev_tE, ↓SD.ev_tNot, ↓SD.ev_tAnd, ↓SD.ev_tOr, ↓SD.ev_tYes, ↓SD.ev_not, ↓SD.ev_and, ↓SD.ev_or, ↓SD.ev_ifE, ↓SD.ev_cmp, ↓SD.ev_chain, ↓SD.ev_ix, ↓SD.ev_slice, ↓SD.ev_part1, ↓SD.ev_part0, ↓SD.ev_call, ↓SD.ev_callV, ↓SD.ev_app, ↓SD.ev_gVar, ↓SD.ev_gTup, ↓SD.ev_gIx, ↓SD.ev_iE, ↓SD.ev_iRange1, ↓SD.ev_iRange2, ↓SD.ev_iZip, ↓SD.ev_comp, ↓SD.ev_tupC, ↓SD.ev_allC, ↓SD.ev_anyC, ↓SD.ev_cComp, ↓SD.eList, ↓SD.gSeq, ↓SD.look_zero, ↓SD.look_succ, ↓SD.isa_non, ↓SD.isa_bl, ↓SD.isa_int, ↓SD.isa_str, ↓SD.isa_tup, ↓SD.isa_lref, ↓SD.ite_tt, ↓SD.ite_ff, SD.add_1, SD.add_2, SD.add_3, SD.add_4, SD.sub_1, SD.sub_2, SD.mul_1, SD.mul_2, SD.fdiv_1, SD.mod_1, SD.pow_1, SD.neg_1, SD.tr_non, SD.tr_bl, SD.tr_int, SD.tr_str, SD.tr_tup, SD.tr_lref, SD.lt_1, SD.le_1, SD.is_1, SD.is_2, SD.is_3, SD.is_4, SD.is_5, SD.is_6, SD.is_7, SD.cmp_eq, SD.cmp_ne, SD.cmp_lt, SD.cmp_le, SD.cmp_gt, SD.cmp_ge, SD.cmp_is, SD.cmp_isnot, SD.cmp_in, SD.cmp_notin, SD.eqk_int, SD.eqk_bl, SD.ix_tup, SD.ix_lref, SD.len_tup, SD.len_lref, SD.len_str, SD.abs_int, SD.int_int, SD.int_bl, SD.tuple_tup, SD.tuple_lref, SD.list_tup, SD.list_lref, SD.witer_tup, SD.witer_lref, SD.wzip_tup, SD.wipe_nil, SD.wipe_cons, SD.tru_nil, SD.tru_bl, SD.dE, SD.pairs, SD.allD, SD.anyD, SD.atI_0, SD.atI_1, SD.atI_2, SD.atI_3, SD.isa_NoneType_int, SD.isa_NoneType_bool, SD.isa_NoneType_str, SD.isa_NoneType_tuple, SD.isa_NoneType_list, SD.isa_bool_int, SD.isa_bool_bool, SD.isa_bool_str, SD.isa_bool_tuple, SD.isa_bool_list, SD.isa_int_int, SD.isa_int_bool, SD.isa_int_str, SD.isa_int_tuple, SD.isa_int_list, SD.isa_str_int, SD.isa_str_bool, SD.isa_str_str, SD.isa_str_tuple, SD.isa_str_list, SD.isa_tuple_int, SD.isa_tuple_bool, SD.isa_tuple_str, SD.isa_tuple_tuple, SD.isa_tuple_list, SD.isa_list_int, SD.isa_list_bool, SD.isa_list_str, SD.isa_list_tuple, SD.isa_list_list, List.length_cons, List.length_nil, List.map_cons, List.map_nil, List.set_cons_zero, List.set_cons_succ, List.replicate_succ, List.replicate_zero, List.cons_append, List.nil_append, List.zipWith_cons_cons, List.zipWith_nil_left, Nat.add_sub_cancel, Nat.reduceAdd, Nat.reduceSub, Nat.zero_add, Nat.sub_self, and_true, true_and, reduceCtorEq, if_true, if_false, ite_true, ite_false, Bool.false_eq_true, Bool.not_true, Bool.not_false, decide_eq_true_eq, range3])
  refine ⟨⟨by decide, by decide⟩, small3, trivial, ?_⟩
  refine part_ok h1 h2 hx hn hp0 (by omega) hw0 hw1 fun q1 p1 a1 b1 c1 d1 => ⟨trivial, ?_⟩
  refine part_ok h1 h2 hx hn (by omega) (by omega) hw0 hw1 fun q2 p2 a2 b2 c2 d2 => ⟨trivial, ?_⟩
  refine part_ok h1 h2 hx hn (by omega) (by omega) hw0 hw1 fun q3 p3 a3 b3 c3 d3 => ⟨trivial, ?_⟩
  have hb : BW 4 ⟨q1, q2, q3⟩ := by exact ⟨b1, b2, b3⟩
  exact ⟨_, cut_at, rfl, h ⟨q1, q2, q3⟩ p3 ⟨a1, a2, a3⟩ hb (by omega) (by omega)⟩
end SP

-- SQg
set_option Elab.async false
set_option linter.all false
set_option maxRecDepth 100000
set_option maxHeartbeats 1000000
namespace SP
open PySem L2 SD SL
/-! ### the same, as text too -/
def noL : D → Bool
  | .lref _ => false
  | _ => true
/-- data whose repr may be asked: at most n deep, not great -/
structure Fit (n b : Nat) (d : D) : Prop where
  ok : okD n d = true
  eq : eqD d d = true
  sh : (toPy d).showable = true
  lv : (toPy d).leavesShort 1921 = true
  bk : (toPy d).bulk ≤ b
theorem repr_1 {d : D} {S : Store} {Q : QV} (h : noL d = true) : reprD d S Q = ((okD 20 d = true ∧ shD (toPy d)) ∧ Q (.str (toPy d).shown) S) := by
  cases d <;> first | (cases h; done) | rfl
theorem eqk_1 {d e : D} {S : Store} {K : Bool → Prop} (h : noL d = true) (h2 : noL e = true) : eqK0 d e S K = ((okD 20 d = true ∧ okD 20 e = true) ∧ K (eqD d e)) := by
  cases d <;> first | (cases h; done) | (cases e <;> first | (cases h2; done) | rfl)
theorem eqk_str {x y : Str} {S : Store} {K : Bool → Prop} : eqK (.str x) (.str y) S K = K (decide (x = y)) := rfl
theorem eqk_self {d : D} {S : Store} {K : Bool → Prop} (h : noL d = true) (o : okD 20 d = true) (e : eqD d d = true) (k : K true) : eqK d d S K := by
  have h0 : eqK0 d d S K := by rw [eqk_1 h h]; exact ⟨⟨o, o⟩, e ▸ k⟩
  cases d
  case str x => rw [eqk_str]; simpa using k
  all_goals exact h0
theorem Fit.sd {n b : Nat} {d : D} (f : Fit n b d) (hb : b ≤ 8000) : shD (toPy d) := by
  refine ⟨f.sh, ?_⟩
  have h := PyData.shown_le_bulk 1921 (by decide) (toPy d) f.lv
  have h2 := f.bk
  have h3 : (1921 + 2) * (toPy d).bulk ≤ 1923 * 8000 := Nat.mul_le_mul (Nat.le_refl _) (by omega)
  rw [sizeLine_eq]
  omega
theorem fit_int {n b : Nat} {i : Int} (h : i.natAbs < 2 ^ 1900) : Fit n b (.int i) := by
  have hl : i.natAbs.log2 < 1920 := Nat.lt_of_lt_of_le (log2_lt_of h (by decide)) (by decide)
  refine ⟨by cases n <;> rfl, by show (i == i) = true; simp, decide_eq_true hl, ?_, Nat.zero_le _⟩
  show decide (_ ≤ 1921) = true
  exact decide_eq_true (PyProof.Rows.int_text_len_1921 hl)
theorem fit_bl {n m : Nat} {b : Bool} : Fit n m (.bl b) := by
  refine ⟨by cases n <;> rfl, by show (b == b) = true; simp, rfl, rfl, Nat.zero_le _⟩
theorem fit_non {n m : Nat} : Fit n m .non := by
  refine ⟨by cases n <;> rfl, rfl, rfl, rfl, Nat.zero_le _⟩
theorem Fit.mono {n b c : Nat} {d : D} (f : Fit n b d) (h : b ≤ c) : Fit n c d := ⟨f.ok, f.eq, f.sh, f.lv, Nat.le_trans f.bk h⟩
theorem fit_tup {n b c : Nat} {ds : List D} (h : ∀ d ∈ ds, Fit n c d) (hb : ds.length * (c + 1) ≤ b) : Fit (n + 1) b (.tup ds) := by
  have h1 : ∀ {ds : List D}, (∀ d ∈ ds, Fit n c d) → okDs n ds = true ∧ eqDs ds ds = true ∧ PyData.showableAll (toPys ds) = true ∧ PyData.leavesShortAll 1921 (toPys ds) = true ∧ PyData.bulkAll (toPys ds) ≤ ds.length * (c + 1) := by
    intro ds
    induction ds with
    | nil => intro _; exact ⟨by cases n <;> rfl, rfl, rfl, rfl, Nat.zero_le _⟩
    | cons d ds ih =>
      intro h
      have a := h d List.mem_cons_self
      obtain ⟨i1, i2, i3, i4, i5⟩ := ih fun d' m => h d' (List.mem_cons_of_mem _ m)
      refine ⟨?_, ?_, ?_, ?_, ?_⟩
      · unfold okDs; rw [a.ok, i1]; rfl
      · unfold eqDs; rw [a.eq, i2]; rfl
      · unfold toPys PyData.showableAll; rw [a.sh, i3]; rfl
      · unfold toPys PyData.leavesShortAll; rw [a.lv, i4]; rfl
      · unfold toPys PyData.bulkAll
        have := a.bk
        rw [List.length_cons, Nat.succ_mul]
        omega
  obtain ⟨i1, i2, i3, i4, i5⟩ := h1 h
  refine ⟨by unfold okD; exact i1, by unfold eqD; exact i2, by unfold toPy PyData.showable; exact i3, by unfold toPy PyData.leavesShort; exact i4, by unfold toPy PyData.bulk; exact Nat.le_trans i5 hb⟩
theorem fit_fr {n : Nat} {q : Rat} (h : B 1900 q) : Fit (n + 1) 2 (fr q) := by
  refine fit_tup (c := 0) (fun d m => ?_) (by simp)
  rcases List.mem_cons.mp m with rfl | m
  · exact fit_int h.1
  · rcases List.mem_cons.mp m with rfl | m
    · exact fit_int (by simpa using h.2)
    · cases m
theorem fit_wy {n : Nat} {v : W3} (h : BW 1900 v) : Fit (n + 2) 9 (wy v) := by
  refine fit_tup (c := 2) (fun d m => ?_) (by simp)
  rcases List.mem_cons.mp m with rfl | m
  · exact fit_fr h.1
  · rcases List.mem_cons.mp m with rfl | m
    · exact fit_fr h.2.1
    · rcases List.mem_cons.mp m with rfl | m
      · exact fit_fr h.2.2
      · cases m
def sp_same : FnD := ⟨2, fun ds S _ Q => ∃ d, ds = [d, d] ∧ (noL d = true ∧ Fit 20 8000 d) ∧ Q (.bl true) S⟩
theorem h__law_same_as (T : Tab) : Meets sp_same N__law_same_as (t__law_same_as T) := by
  rintro ds S E Q hl ⟨d, rfl, ⟨h1, h2⟩, h⟩
  unfold t__law_same_as N__law_same_as
  ((try simp only [SD.startD, List.length_cons, List.length_nil, List.map_cons, List.map_nil, List.replicate_succ, List.replicate_zero, List.cons_append, List.nil_append, Nat.reduceAdd, Nat.reduceSub, Nat.zero_add]); simp only [↓SD.ev_nil, ↓SD.ev_seq, ↓SD.ev_next, ↓SD.ev_break, ↓SD.ev_cont, ↓SD.ev_expr, ↓SD.ev_ret, ↓SD.ev_retN, ↓SD.ev_asg, ↓SD.ev_aug, ↓SD.ev_if, ↓SD.ev_for, ↓SD.ev_raise, ↓SD.ev_try, ↓SD.ev_var, ↓SD.ev_c, ↓SD.ev_glob, ↓SD.ev_tup, ↓SD.ev_lst, ↓SD.ev_bin, ↓SD.ev_un, ↓SD.ev_b1, ↓SD.ev_tE, ↓SD.ev_tNot, ↓SD.ev_tAnd, ↓SD.ev_tOr, ↓SD.ev_tYes, ↓SD.ev_not, ↓SD.ev_and, ↓SD.ev_or, ↓SD.ev_ifE, ↓SD.ev_cmp, ↓SD.ev_chain, ↓SD.ev_ix, ↓SD.ev_slice, ↓SD.ev_part1, ↓SD.ev_part0, ↓SD.ev_call, ↓SD.ev_callV, ↓SD.ev_app, ↓SD.ev_gVar, ↓SD.ev_gTup, ↓SD.ev_gIx, ↓SD.ev_iE, ↓SD.ev_iRange1, ↓SD.ev_iRange2, ↓SD.ev_iZip, ↓SD.ev_comp, ↓SD.ev_tupC, ↓SD.ev_allC, ↓SD.ev_anyC, ↓SD.ev_cComp, ↓SD.eList, ↓SD.gSeq, ↓SD.look_zero, ↓SD.look_succ, ↓SD.isa_non, ↓SD.isa_bl, ↓SD.isa_int, ↓SD.isa_str, ↓SD.isa_tup, ↓SD.isa_lref, ↓SD.ite_tt, ↓SD.ite_ff, SD.add_1, SD.add_2, SD.add_3, SD.add_4, SD.sub_1, SD.sub_2, SD.mul_1, SD.mul_2, SD.fdiv_1, SD.mod_1, SD.pow_1, SD.neg_1, SD.tr_non, SD.tr_bl, SD.tr_int, SD.tr_str, SD.tr_tup, SD.tr_lref, SD.lt_1, SD.le_1, SD.is_1, SD.is_2, SD.is_3, SD.is_4, SD.is_5, SD.is_6, SD.is_7, SD.cmp_eq, SD.cmp_ne, SD.cmp_lt, SD.cmp_le, SD.cmp_gt, SD.cmp_ge, SD.cmp_is, SD.cmp_isnot, SD.cmp_in, SD.cmp_notin, SD.eqk_int, SD.eqk_bl, SD.ix_tup, SD.ix_lref, SD.len_tup, SD.len_lref, SD.len_str, SD.abs_int, SD.int_int, SD.int_bl, SD.tuple_tup, SD.tuple_lref, SD.list_tup, SD.list_lref, SD.witer_tup, SD.witer_lref, SD.wzip_tup, SD.wipe_nil, SD.wipe_cons, SD.tru_nil, SD.tru_bl, SD.dE, SD.pairs, SD.allD, SD.anyD, SD.atI_0, SD.atI_1, SD.atI_2, SD.atI_3, SD.isa_NoneType_int, SD.isa_NoneType_bool, SD.isa_NoneType_str, SD.isa_NoneType_tuple, SD.isa_NoneType_list, SD.isa_bool_int, SD.isa_bool_bool, SD.isa_bool_str, SD.isa_bool_tuple, SD.isa_bool_list, SD.isa_int_int, SD.isa_int_bool, SD.isa_int_str, SD.isa_int_tuple, SD.isa_int_list, SD.isa_str_int, SD.isa_str_bool, SD.isa_str_str, SD.isa_str_tuple, SD.isa_str_list, SD.isa_tuple_int, SD.isa_tuple_bool, SD.isa_tuple_str, SD.isa_tuple_tuple, SD.isa_tuple_list, SD.isa_list_int, SD.isa_list_bool, SD.isa_list_str, SD.isa_list_tuple, SD.isa_list_list, List.length_cons, List.length_nil, List.map_cons, List.map_nil, List.set_cons_zero, List.set_cons_succ, List.replicate_succ, List.replicate_zero, List.cons_append, List.nil_append, List.zipWith_cons_cons, List.zipWith_nil_left, Nat.add_sub_cancel, Nat.reduceAdd, Nat.reduceSub, Nat.zero_add, Nat.sub_self, and_true, true_and, reduceCtorEq, if_true, if_false, ite_true, ite_false, Bool.false_eq_true, Bool.not_true, Bool.not_false, decide_eq_true_eq])
  refine eqk_self h1 h2.ok h2.eq ?_
  ((try simp only [SD.startD, List.length_cons, List.length_nil, List.map_cons, List.map_nil, List.replicate_succ, List.replicate_zero, List.cons_append, List.nil_append, Nat.reduceAdd, Nat.reduceSub, Nat.zero_add]); simp only [↓SD.ev_nil, ↓SD.ev_seq, ↓SD.ev_next, ↓SD.ev_break, ↓SD.ev_cont, ↓SD.ev_expr, ↓SD.ev_ret, ↓SD.ev_retN, ↓SD.ev_asg, ↓SD.ev_aug, ↓SD.ev_if, ↓SD.ev_for, ↓SD.ev_raise, ↓SD.ev_try, ↓SD.ev_var, ↓SD.ev_c, ↓SD.ev_glob, ↓SD.ev_tup, ↓SD.ev_lst, ↓SD.ev_bin, ↓SD.ev_un, ↓SD.ev_b1, ↓SD.ev_tE, ↓SD.ev_tNot, ↓SD.ev_tAnd, ↓SD.ev_tOr, ↓SD.ev_tYes, ↓SD.ev_not, ↓SD.ev_and, ↓SD.ev_or, ↓SD.ev_ifE, ↓SD.ev_cmp, ↓SD.ev_chain, ↓SD.ev_ix, ↓SD.ev_slice, ↓SD.ev_part1, ↓SD.ev_part0, ↓SD.ev_call, ↓SD.ev_callV, ↓SD.ev_app, ↓SD.ev_gVar, ↓SD.ev_gTup, ↓SD.ev_gIx, ↓SD.ev_iE, ↓SD.ev_iRange1, ↓SD.ev_iRange2, ↓SD.ev_iZip, ↓SD.ev_comp, ↓SD.ev_tupC, ↓SD.ev_allC, ↓SD.ev_anyC, ↓SD.ev_cComp, ↓SD.eList, ↓SD.gSeq, ↓SD.look_zero, ↓SD.look_succ, ↓SD.isa_non, ↓SD.isa_bl, ↓SD.isa_int, ↓SD.isa_str, ↓SD.isa_tup, ↓SD.isa_lref, ↓SD.ite_tt, ↓SD.ite_ff, SD.add_1, SD.add_2, SD.add_3, SD.add_4, SD.sub_1, SD.sub_2, SD.mul_1, SD.mul_2, SD.fdiv_1, SD.mod_1, SD.pow_1, SD.neg_1, SD.tr_non, SD.tr_bl, SD.tr_int, SD.tr_str, SD.tr_tup, SD.tr_lref, SD.lt_1, SD.le_1, SD.is_1, SD.is_2, SD.is_3, SD.is_4, SD.is_5, SD.is_6, SD.is_7, SD.cmp_eq, SD.cmp_ne, SD.cmp_lt, SD.cmp_le, SD.cmp_gt, SD.cmp_ge, SD.cmp_is, SD.cmp_isnot, SD.cmp_in, SD.cmp_notin, SD.eqk_int, SD.eqk_bl, SD.ix_tup, SD.ix_lref, SD.len_tup, SD.len_lref, SD.len_str, SD.abs_int, SD.int_int, SD.int_bl, SD.tuple_tup, SD.tuple_lref, SD.list_tup, SD.list_lref, SD.witer_tup, SD.witer_lref, SD.wzip_tup, SD.wipe_nil, SD.wipe_cons, SD.tru_nil, SD.tru_bl, SD.dE, SD.pairs, SD.allD, SD.anyD, SD.atI_0, SD.atI_1, SD.atI_2, SD.atI_3, SD.isa_NoneType_int, SD.isa_NoneType_bool, SD.isa_NoneType_str, SD.isa_NoneType_tuple, SD.isa_NoneType_list, SD.isa_bool_int, SD.isa_bool_bool, SD.isa_bool_str, SD.isa_bool_tuple, SD.isa_bool_list, SD.isa_int_int, SD.isa_int_bool, SD.isa_int_str, SD.isa_int_tuple, SD.isa_int_list, SD.isa_str_int, SD.isa_str_bool, SD.isa_str_str, SD.isa_str_tuple, SD.isa_str_list, SD.isa_tuple_int, SD.isa_tuple_bool, SD.isa_tuple_str, SD.isa_tuple_tuple, SD.isa_tuple_list, SD.isa_list_int, SD.isa_list_bool, SD.isa_list_str, SD.isa_list_tuple, SD.isa_list_list, List.length_cons, List.length_nil, List.map_cons, List.map_nil, List.set_cons_zero, List.set_cons_succ, List.replicate_succ, List.replicate_zero, List.cons_append, List.nil_append, List.zipWith_cons_cons, List.zipWith_nil_left, Nat.add_sub_cancel, Nat.reduceAdd, Nat.reduceSub, Nat.zero_add, Nat.sub_self, and_true, true_and, reduceCtorEq, if_true, if_false, ite_true, ite_false, Bool.false_eq_true, Bool.not_true, Bool.not_false, decide_eq_true_eq, repr_1 h1])
  have o := h2.sd (Nat.le_refl _)
  refine ⟨⟨h2.ok, o⟩, ⟨h2.ok, o⟩, ?_⟩
  rw [eqk_str, decide_eq_true rfl]
  exact trQ_self rfl h
end SP

-- SQh
set_option Elab.async false
set_option linter.all false
set_option maxRecDepth 100000
set_option maxHeartbeats 1000000
namespace SP
open PySem L2 SD SL
/-! ### the draws of a script -/
theorem small_app {l : List Int} {n : Nat} (h : l.length ≤ n) (hn : n ≤ 4000) : (l.map D.int).length < sizeLine := by
  rw [List.length_map, sizeLine_eq]; omega
theorem okX_app {l : List Int} {x : Int} (h : okX l) (h0 : 0 ≤ x) (h1 : x ≤ 3000000) : okX (l ++ [x]) := by
  intro y m
  rcases List.mem_append.mp m with m | m
  · exact h y m
  · rcases List.mem_cons.mp m with rfl | m
    · exact ⟨h0, h1⟩
    · cases m
theorem map_app {l : List Int} {x : Int} : l.map D.int ++ [.int x] = (l ++ [x]).map .int := by simp
theorem pow_big {i j : Int} (hi : i.natAbs < 2 ^ 40) (hj : j.natAbs < 2 ^ 40) : mulOk i j := mulOk_small (Nat.lt_of_lt_of_le hi (Nat.pow_le_pow_right (by decide) (by decide))) (Nat.lt_of_lt_of_le hj (Nat.pow_le_pow_right (by decide) (by decide)))
def sp_draws : FnD := ⟨1, fun ds S _ Q => ∃ ns, ds = [.scr ns] ∧ S = [] ∧ ∀ xs, okX xs → xs.length ≤ 3780 → Q (.lref 0) [.lst (xs.map .int)]⟩
theorem cut63 {ns : List Int} : (cut ns none (some 63)).length ≤ 63 := by
  unfold cut
  have e : HT.sIx ns.length ns.length (some 63) - HT.sIx ns.length 0 none ≤ 63 := by
    unfold HT.sIx
    simp
    omega
  rw [List.length_take]
  omega
theorem range_len {n : Int} : (iRange 0 n).length = n.toNat := by
  unfold iRange; simp
theorem range_get {n : Int} {i : Nat} {d : D} (h : (iRange 0 n)[i]? = some d) : d = .int (i : Int) ∧ i < n.toNat := by
  unfold iRange at h
  rw [List.getElem?_map] at h
  obtain ⟨j, hj, rfl⟩ := Option.map_eq_some_iff.mp h
  have := (List.getElem?_eq_some_iff.mp hj)
  obtain ⟨h1, h2⟩ := this
  simp at h1 h2
  subst h2
  exact ⟨by simp, by omega⟩
theorem fmod_lt {a b : Int} (hb : 0 < b) : 0 ≤ Int.fmod a b ∧ Int.fmod a b < b := fmod_in hb
theorem fdiv_nn {a : Int} (h : 0 ≤ a) : 0 ≤ Int.fdiv a 1009 := by
  rw [Int.fdiv_eq_ediv_of_nonneg _ (by decide)]
  exact Int.ediv_nonneg h (by decide)
theorem fdiv_up {a : Int} (h0 : 0 ≤ a) (h : a < 2147483629) : Int.fdiv a 1009 ≤ 3000000 := by
  rw [Int.fdiv_eq_ediv_of_nonneg _ (by decide)]
  omega
theorem clInts {n : Nat} : ∀ l : List Int, clDs n (l.map D.int) = true
  | [] => rfl
  | x :: l => by
    rw [List.map_cons]
    show (clD n (.int x) && clDs n (l.map D.int)) = true
    rw [clInts l]
    rfl
theorem sl_scr {ns : List Int} {lo hi : Option Int} {S : Store} {Q : QV} : sliceD (.scr ns) lo hi S Q = Q (.lref S.length) (S ++ [.lst ((cut ns lo hi).map .int)]) := rfl
theorem cell_1 {a : Cell} {xs : List D} {g : Store} {Q : List D → Prop} : cellL (a :: .lst xs :: g) 1 Q = Q xs := rfl
theorem cell_0 {xs : List D} {g : Store} {Q : List D → Prop} : cellL (.lst xs :: g) 0 Q = Q xs := rfl
theorem set_0 {c c' : Cell} {g : Store} : (c :: g).set 0 c' = c' :: g := rfl
theorem h__law_draws (T : Tab) : Meets sp_draws N__law_draws (t__law_draws T) := by
  rintro ds S E Q hl ⟨ns, rfl, rfl, h⟩
  unfold t__law_draws N__law_draws
  have hcut := cut63 (ns := ns)
  ((try simp only [SD.startD, List.length_cons, List.length_nil, List.map_cons, List.map_nil, List.replicate_succ, List.replicate_zero, List.cons_append, List.nil_append, Nat.reduceAdd, Nat.reduceSub, Nat.zero_add]); simp only [↓SD.ev_nil, ↓SD.ev_seq, ↓SD.ev_next, ↓SD.ev_break, ↓SD.ev_cont, ↓SD.ev_expr, ↓SD.ev_ret, ↓SD.ev_retN, ↓SD.ev_asg, ↓SD.ev_aug, ↓SD.ev_if, ↓SD.ev_for, ↓SD.ev_raise, ↓SD.ev_try, ↓SD.ev_var, ↓SD.ev_c, ↓SD.ev_glob, ↓SD.ev_tup, ↓SD.ev_lst, ↓SD.ev_bin, ↓SD.ev_un, ↓SD.ev_b1, ↓SD.ev_tE, ↓SD.ev_tNot, ↓SD.ev_tAnd, ↓SD.ev_tOr, ↓SD.ev_tYes, ↓SD.ev_not, ↓SD.ev_and, ↓SD.ev_or, ↓SD.ev_ifE, ↓SD.ev_cmp, ↓SD.ev_chain, ↓SD.ev_ix, ↓SD.ev_slice, ↓SD.ev_part1, ↓SD.ev_part0, ↓SD.ev_call, ↓SD.ev_callV, ↓SD.ev_app, ↓SD.ev_gVar, ↓SD.ev_gTup, ↓SD.ev_gIx, ↓SD.ev_iE, ↓SD.ev_iRange1, ↓SD.ev_iRange2, ↓SD.ev_iZip, ↓SD.ev_comp, ↓SD.ev_tupC, ↓SD.ev_allC, ↓SD.ev_anyC, ↓SD.ev_cComp, ↓SD.eList, ↓SD.gSeq, ↓SD.look_zero, ↓SD.look_succ, ↓SD.isa_non, ↓SD.isa_bl, ↓SD.isa_int, ↓SD.isa_str, ↓SD.isa_tup, ↓SD.isa_lref, ↓SD.ite_tt, ↓SD.ite_ff, SD.add_1, SD.add_2, SD.add_3, SD.add_4, SD.sub_1, SD.sub_2, SD.mul_1, SD.mul_2, SD.fdiv_1, SD.mod_1, SD.pow_1, SD.neg_1, SD.tr_non, SD.tr_bl, SD.tr_int, SD.tr_str, SD.tr_tup, SD.tr_lref, SD.lt_1, SD.le_1, SD.is_1, SD.is_2, SD.is_3, SD.is_4, SD.is_5, SD.is_6, SD.is_7, SD.cmp_eq, SD.cmp_ne, SD.cmp_lt, SD.cmp_le, SD.cmp_gt, SD.cmp_ge, SD.cmp_is, SD.cmp_isnot, SD.cmp_in, SD.cmp_notin, SD.eqk_int, SD.eqk_bl, SD.ix_tup, SD.ix_lref, SD.len_tup, SD.len_lref, SD.len_str, SD.abs_int, SD.int_int, SD.int_bl, SD.tuple_tup, SD.tuple_lref, SD.list_tup, SD.list_lref, SD.witer_tup, SD.witer_lref, SD.wzip_tup, SD.wipe_nil, SD.wipe_cons, SD.tru_nil, SD.tru_bl, SD.dE, SD.pairs, SD.allD, SD.anyD, SD.atI_0, SD.atI_1, SD.atI_2, SD.atI_3, SD.isa_NoneType_int, SD.isa_NoneType_bool, SD.isa_NoneType_str, SD.isa_NoneType_tuple, SD.isa_NoneType_list, SD.isa_bool_int, SD.isa_bool_bool, SD.isa_bool_str, SD.isa_bool_tuple, SD.isa_bool_list, SD.isa_int_int, SD.isa_int_bool, SD.isa_int_str, SD.isa_int_tuple, SD.isa_int_list, SD.isa_str_int, SD.isa_str_bool, SD.isa_str_str, SD.isa_str_tuple, SD.isa_str_list, SD.isa_tuple_int, SD.isa_tuple_bool, SD.isa_tuple_str, SD.isa_tuple_tuple, SD.isa_tuple_list, SD.isa_list_int, SD.isa_list_bool, SD.isa_list_str, SD.isa_list_tuple, SD.isa_list_list, List.length_cons, List.length_nil, List.map_cons, List.map_nil, List.set_cons_zero, List.set_cons_succ, List.replicate_succ, List.replicate_zero, List.cons_append, List.nil_append, List.zipWith_cons_cons, List.zipWith_nil_left, Nat.add_sub_cancel, Nat.reduceAdd, Nat.reduceSub, Nat.zero_add, Nat.sub_self, and_true, true_and, reduceCtorEq, if_true, if_false, ite_true, ite_false, Bool.false_eq_true, Bool.not_true, Bool.not_false, decide_eq_true_eq, sl_scr, cell_1])
  generalize cut ns none (some 63) = cs at hcut ⊢
  refine for_inv (fun j env S' => ∃ l : List Int, S' = [.lst (l.map .int), .lst (cs.map .int)] ∧ okX l ∧ l.length ≤ 60 * j ∧ ∃ x2 x3 x4 x5, env = [some (.scr ns), some (.lref 0), x2, x3, x4, x5]) (j := 0) (fun i d env S' K hd hi hk => ?_) ⟨[], rfl, fun x m => (by cases m), Nat.zero_le _, _, _, _, _, rfl⟩ (fun env S' hi => ?_)
  · obtain ⟨l, rfl, hx, hn, x2, x3, x4, x5, rfl⟩ := hi
    refine ⟨rfl, ?_⟩
    rw [List.getElem?_map] at hd
    obtain ⟨c, hc, rfl⟩ := Option.map_eq_some_iff.mp hd
    have hi63 : i < 63 := Nat.lt_of_lt_of_le (List.getElem?_eq_some_iff.mp hc).1 hcut
    ((try simp only [SD.startD, List.length_cons, List.length_nil, List.map_cons, List.map_nil, List.replicate_succ, List.replicate_zero, List.cons_append, List.nil_append, Nat.reduceAdd, Nat.reduceSub, Nat.zero_add]); simp only [↓SD.ev_nil, ↓SD.ev_seq, ↓SD.ev_next, ↓SD.ev_break, ↓SD.ev_cont, ↓SD.ev_expr, ↓SD.ev_ret, ↓SD.ev_retN, ↓SD.ev_asg, ↓SD.ev_aug, ↓SD.ev_if, ↓SD.ev_for, ↓SD.ev_raise, ↓SD.ev_try, ↓SD.ev_var, ↓SD.ev_c, ↓SD.ev_glob, ↓SD.ev_tup, ↓SD.ev_lst, ↓SD.ev_bin, ↓SD.ev_un, ↓SD.ev_b1, ↓SD.ev_tE, ↓SD.ev_tNot, ↓SD.ev_tAnd, ↓SD.ev_tOr, ↓SD.ev_tYes, ↓SD.ev_not, ↓SD.ev_and, ↓SD.ev_or, ↓SD.ev_ifE, ↓SD.ev_cmp, ↓SD.ev_chain, ↓SD.ev_ix, ↓SD.ev_slice, ↓SD.ev_part1, ↓SD.ev_part0, ↓SD.ev_call, ↓SD.ev_callV, ↓SD.ev_app, ↓SD.ev_gVar, ↓SD.ev_gTup, ↓SD.ev_gIx, ↓SD.ev_iE, ↓SD.ev_iRange1, ↓SD.ev_iRange2, ↓SD.ev_iZip, ↓SD.ev_comp, ↓SD.ev_tupC, ↓SD.ev_allC, ↓SD.ev_anyC, ↓SD.ev_cComp, ↓SD.eList, ↓SD.gSeq, ↓SD.look_zero, ↓SD.look_succ, ↓SD.isa_non, ↓SD.isa_bl, ↓SD.isa_int, ↓SD.isa_str, ↓SD.isa_tup, ↓SD.isa_lref, ↓SD.ite_tt, ↓SD.ite_ff, SD.add_1, SD.add_2, SD.add_3, SD.add_4, SD.sub_1, SD.sub_2, SD.mul_1, SD.mul_2, SD.fdiv_1, SD.mod_1, SD.pow_1, SD.neg_1, SD.tr_non, SD.tr_bl, SD.tr_int, SD.tr_str, SD.tr_tup, SD.tr_lref, SD.lt_1, SD.le_1, SD.is_1, SD.is_2, SD.is_3, SD.is_4, SD.is_5, SD.is_6, SD.is_7, SD.cmp_eq, SD.cmp_ne, SD.cmp_lt, SD.cmp_le, SD.cmp_gt, SD.cmp_ge, SD.cmp_is, SD.cmp_isnot, SD.cmp_in, SD.cmp_notin, SD.eqk_int, SD.eqk_bl, SD.ix_tup, SD.ix_lref, SD.len_tup, SD.len_lref, SD.len_str, SD.abs_int, SD.int_int, SD.int_bl, SD.tuple_tup, SD.tuple_lref, SD.list_tup, SD.list_lref, SD.witer_tup, SD.witer_lref, SD.wzip_tup, SD.wipe_nil, SD.wipe_cons, SD.tru_nil, SD.tru_bl, SD.dE, SD.pairs, SD.allD, SD.anyD, SD.atI_0, SD.atI_1, SD.atI_2, SD.atI_3, SD.isa_NoneType_int, SD.isa_NoneType_bool, SD.isa_NoneType_str, SD.isa_NoneType_tuple, SD.isa_NoneType_list, SD.isa_bool_int, SD.isa_bool_bool, SD.isa_bool_str, SD.isa_bool_tuple, SD.isa_bool_list, SD.isa_int_int, SD.isa_int_bool, SD.isa_int_str, SD.isa_int_tuple, SD.isa_int_list, SD.isa_str_int, SD.isa_str_bool, SD.isa_str_str, SD.isa_str_tuple, SD.isa_str_list, SD.isa_tuple_int, SD.isa_tuple_bool, SD.isa_tuple_str, SD.isa_tuple_tuple, SD.isa_tuple_list, SD.isa_list_int, SD.isa_list_bool, SD.isa_list_str, SD.isa_list_tuple, SD.isa_list_list, List.length_cons, List.length_nil, List.map_cons, List.map_nil, List.set_cons_zero, List.set_cons_succ, List.replicate_succ, List.replicate_zero, List.cons_append, List.nil_append, List.zipWith_cons_cons, List.zipWith_nil_left, Nat.add_sub_cancel, Nat.reduceAdd, Nat.reduceSub, Nat.zero_add, Nat.sub_self, and_true, true_and, reduceCtorEq, if_true, if_false, ite_true, ite_false, Bool.false_eq_true, Bool.not_true, Bool.not_false, decide_eq_true_eq])
    refine ⟨⟨by decide, by decide, by decide⟩, ?_⟩
    have hc0 : 0 ≤ (if c < 0 then -c else c) := by split <;> omega
    generalize (if c < 0 then -c else c) = r at hc0 ⊢
    by_cases hb : (10 : Int) ^ (18 : Int).toNat ≤ r
    · rw [if_pos hb]
      refine ⟨⟨by decide, by decide⟩, ?_⟩
      refine for_inv (fun j env S' => ∃ (l' : List Int) (r' : Int), S' = [.lst (l'.map .int), .lst (cs.map .int)] ∧ okX l' ∧ l'.length ≤ 60 * i + j ∧ 0 ≤ r' ∧ ∃ x4, env = [some (.scr ns), some (.lref 0), some (.int c), some (.int r'), x4, x5]) (j := 0) (fun i2 d2 env2 S2 K2 hd2 hi2 hk2 => ?_) ⟨l, r, rfl, hx, by omega, hc0, _, rfl⟩ (fun env2 S2 hi2 => ?_)
      · obtain ⟨l', r', rfl, hx', hn', hr', x4', rfl⟩ := hi2
        obtain ⟨rfl, h60⟩ := range_get hd2
        have h60' : i2 < 60 := h60
        refine ⟨trivial, ?_⟩
        ((try simp only [SD.startD, List.length_cons, List.length_nil, List.map_cons, List.map_nil, List.replicate_succ, List.replicate_zero, List.cons_append, List.nil_append, Nat.reduceAdd, Nat.reduceSub, Nat.zero_add]); simp only [↓SD.ev_nil, ↓SD.ev_seq, ↓SD.ev_next, ↓SD.ev_break, ↓SD.ev_cont, ↓SD.ev_expr, ↓SD.ev_ret, ↓SD.ev_retN, ↓SD.ev_asg, ↓SD.ev_aug, ↓SD.ev_if, ↓SD.ev_for, ↓SD.ev_raise, ↓SD.ev_try, ↓SD.ev_var, ↓SD.ev_c, ↓SD.ev_glob, ↓SD.ev_tup, ↓SD.ev_lst, ↓SD.ev_bin, ↓SD.ev_un, ↓SD.ev_b1, ↓SD.ev_tE, ↓SD.ev_tNot, ↓SD.ev_tAnd, ↓SD.ev_tOr, ↓SD.ev_tYes, ↓SD.ev_not, ↓SD.ev_and, ↓SD.ev_or, ↓SD.ev_ifE, ↓SD.ev_cmp, ↓SD.ev_chain, ↓SD.ev_ix, ↓SD.ev_slice, ↓SD.ev_part1, ↓SD.ev_part0, ↓SD.ev_call, ↓SD.ev_callV, ↓SD.ev_app, ↓SD.ev_gVar, ↓SD.ev_gTup, ↓SD.ev_gIx, ↓SD.ev_iE, ↓SD.ev_iRange1, ↓SD.ev_iRange2, ↓SD.ev_iZip, ↓SD.ev_comp, ↓SD.ev_tupC, ↓SD.ev_allC, ↓SD.ev_anyC, ↓SD.ev_cComp, ↓SD.eList, ↓SD.gSeq, ↓SD.look_zero, ↓SD.look_succ, ↓SD.isa_non, ↓SD.isa_bl, ↓SD.isa_int, ↓SD.isa_str, ↓SD.isa_tup, ↓SD.isa_lref, ↓SD.ite_tt, ↓SD.ite_ff, SD.add_1, SD.add_2, SD.add_3, SD.add_4, SD.sub_1, SD.sub_2, SD.mul_1, SD.mul_2, SD.fdiv_1, SD.mod_1, SD.pow_1, SD.neg_1, SD.tr_non, SD.tr_bl, SD.tr_int, SD.tr_str, SD.tr_tup, SD.tr_lref, SD.lt_1, SD.le_1, SD.is_1, SD.is_2, SD.is_3, SD.is_4, SD.is_5, SD.is_6, SD.is_7, SD.cmp_eq, SD.cmp_ne, SD.cmp_lt, SD.cmp_le, SD.cmp_gt, SD.cmp_ge, SD.cmp_is, SD.cmp_isnot, SD.cmp_in, SD.cmp_notin, SD.eqk_int, SD.eqk_bl, SD.ix_tup, SD.ix_lref, SD.len_tup, SD.len_lref, SD.len_str, SD.abs_int, SD.int_int, SD.int_bl, SD.tuple_tup, SD.tuple_lref, SD.list_tup, SD.list_lref, SD.witer_tup, SD.witer_lref, SD.wzip_tup, SD.wipe_nil, SD.wipe_cons, SD.tru_nil, SD.tru_bl, SD.dE, SD.pairs, SD.allD, SD.anyD, SD.atI_0, SD.atI_1, SD.atI_2, SD.atI_3, SD.isa_NoneType_int, SD.isa_NoneType_bool, SD.isa_NoneType_str, SD.isa_NoneType_tuple, SD.isa_NoneType_list, SD.isa_bool_int, SD.isa_bool_bool, SD.isa_bool_str, SD.isa_bool_tuple, SD.isa_bool_list, SD.isa_int_int, SD.isa_int_bool, SD.isa_int_str, SD.isa_int_tuple, SD.isa_int_list, SD.isa_str_int, SD.isa_str_bool, SD.isa_str_str, SD.isa_str_tuple, SD.isa_str_list, SD.isa_tuple_int, SD.isa_tuple_bool, SD.isa_tuple_str, SD.isa_tuple_tuple, SD.isa_tuple_list, SD.isa_list_int, SD.isa_list_bool, SD.isa_list_str, SD.isa_list_tuple, SD.isa_list_list, List.length_cons, List.length_nil, List.map_cons, List.map_nil, List.set_cons_zero, List.set_cons_succ, List.replicate_succ, List.replicate_zero, List.cons_append, List.nil_append, List.zipWith_cons_cons, List.zipWith_nil_left, Nat.add_sub_cancel, Nat.reduceAdd, Nat.reduceSub, Nat.zero_add, Nat.sub_self, and_true, true_and, reduceCtorEq, if_true, if_false, ite_true, ite_false, Bool.false_eq_true, Bool.not_true, Bool.not_false, decide_eq_true_eq])
        by_cases hp : 0 < r'
        · rw [if_pos hp]
          have f := fmod_lt (a := r') (b := 1009) (by decide)
          ((try simp only [SD.startD, List.length_cons, List.length_nil, List.map_cons, List.map_nil, List.replicate_succ, List.replicate_zero, List.cons_append, List.nil_append, Nat.reduceAdd, Nat.reduceSub, Nat.zero_add]); simp only [↓SD.ev_nil, ↓SD.ev_seq, ↓SD.ev_next, ↓SD.ev_break, ↓SD.ev_cont, ↓SD.ev_expr, ↓SD.ev_ret, ↓SD.ev_retN, ↓SD.ev_asg, ↓SD.ev_aug, ↓SD.ev_if, ↓SD.ev_for, ↓SD.ev_raise, ↓SD.ev_try, ↓SD.ev_var, ↓SD.ev_c, ↓SD.ev_glob, ↓SD.ev_tup, ↓SD.ev_lst, ↓SD.ev_bin, ↓SD.ev_un, ↓SD.ev_b1, ↓SD.ev_tE, ↓SD.ev_tNot, ↓SD.ev_tAnd, ↓SD.ev_tOr, ↓SD.ev_tYes, ↓SD.ev_not, ↓SD.ev_and, ↓SD.ev_or, ↓SD.ev_ifE, ↓SD.ev_cmp, ↓SD.ev_chain, ↓SD.ev_ix, ↓SD.ev_slice, ↓SD.ev_part1, ↓SD.ev_part0, ↓SD.ev_call, ↓SD.ev_callV, ↓SD.ev_app, ↓SD.ev_gVar, ↓SD.ev_gTup, ↓SD.ev_gIx, ↓SD.ev_iE, ↓SD.ev_iRange1, ↓SD.ev_iRange2, ↓SD.ev_iZip, ↓SD.ev_comp, ↓SD.ev_tupC, ↓SD.ev_allC, ↓SD.ev_anyC, ↓SD.ev_cComp, ↓SD.eList, ↓SD.gSeq, ↓SD.look_zero, ↓SD.look_succ, ↓SD.isa_non, ↓SD.isa_bl, ↓SD.isa_int, ↓SD.isa_str, ↓SD.isa_tup, ↓SD.isa_lref, ↓SD.ite_tt, ↓SD.ite_ff, SD.add_1, SD.add_2, SD.add_3, SD.add_4, SD.sub_1, SD.sub_2, SD.mul_1, SD.mul_2, SD.fdiv_1, SD.mod_1, SD.pow_1, SD.neg_1, SD.tr_non, SD.tr_bl, SD.tr_int, SD.tr_str, SD.tr_tup, SD.tr_lref, SD.lt_1, SD.le_1, SD.is_1, SD.is_2, SD.is_3, SD.is_4, SD.is_5, SD.is_6, SD.is_7, SD.cmp_eq, SD.cmp_ne, SD.cmp_lt, SD.cmp_le, SD.cmp_gt, SD.cmp_ge, SD.cmp_is, SD.cmp_isnot, SD.cmp_in, SD.cmp_notin, SD.eqk_int, SD.eqk_bl, SD.ix_tup, SD.ix_lref, SD.len_tup, SD.len_lref, SD.len_str, SD.abs_int, SD.int_int, SD.int_bl, SD.tuple_tup, SD.tuple_lref, SD.list_tup, SD.list_lref, SD.witer_tup, SD.witer_lref, SD.wzip_tup, SD.wipe_nil, SD.wipe_cons, SD.tru_nil, SD.tru_bl, SD.dE, SD.pairs, SD.allD, SD.anyD, SD.atI_0, SD.atI_1, SD.atI_2, SD.atI_3, SD.isa_NoneType_int, SD.isa_NoneType_bool, SD.isa_NoneType_str, SD.isa_NoneType_tuple, SD.isa_NoneType_list, SD.isa_bool_int, SD.isa_bool_bool, SD.isa_bool_str, SD.isa_bool_tuple, SD.isa_bool_list, SD.isa_int_int, SD.isa_int_bool, SD.isa_int_str, SD.isa_int_tuple, SD.isa_int_list, SD.isa_str_int, SD.isa_str_bool, SD.isa_str_str, SD.isa_str_tuple, SD.isa_str_list, SD.isa_tuple_int, SD.isa_tuple_bool, SD.isa_tuple_str, SD.isa_tuple_tuple, SD.isa_tuple_list, SD.isa_list_int, SD.isa_list_bool, SD.isa_list_str, SD.isa_list_tuple, SD.isa_list_list, List.length_cons, List.length_nil, List.map_cons, List.map_nil, List.set_cons_zero, List.set_cons_succ, List.replicate_succ, List.replicate_zero, List.cons_append, List.nil_append, List.zipWith_cons_cons, List.zipWith_nil_left, Nat.add_sub_cancel, Nat.reduceAdd, Nat.reduceSub, Nat.zero_add, Nat.sub_self, and_true, true_and, reduceCtorEq, if_true, if_false, ite_true, ite_false, Bool.false_eq_true, Bool.not_true, Bool.not_false, decide_eq_true_eq, app_1, cell_0, set_0, map_app])
          refine ⟨by decide, small_app (n := 3900) (by omega) (by decide), ⟨by decide, by decide⟩, ?_⟩
          refine hk2 _ _ ⟨l' ++ [r'.fmod 1009], r'.fdiv 1009, rfl, okX_app hx' f.1 (by omega), by rw [List.length_append]; simp; omega, fdiv_nn hr', _, rfl⟩
        · rw [if_neg hp]
          refine hk2 _ _ ⟨l', r', rfl, hx', by omega, hr', _, rfl⟩
      · obtain ⟨l', r', rfl, hx', hn', hr', x4', rfl⟩ := hi2
        rw [range_len] at hn'
        refine ⟨trivial, ?_⟩
        refine hk _ _ ⟨l', rfl, hx', ?_, _, _, _, _, rfl⟩
        have : (60 : Int).toNat = 60 := rfl
        omega
    · rw [if_neg hb]
      have hb' : r < 1000000000000000000 := by
        have : (10 : Int) ^ (18 : Int).toNat = 1000000000000000000 := by decide
        omega
      have f0 := fmod_lt (a := r * 48271 + 11) (b := 2147483647) (by decide)
      refine ⟨mulOk_small (Nat.lt_of_lt_of_le (show r.natAbs < 1000000000000000000 by omega) (by decide)) (by decide), by decide, ⟨by decide, by decide⟩, ?_⟩
      refine for_inv (fun j env S' => ∃ (l' : List Int) (m' : Int), S' = [.lst (l'.map .int), .lst (cs.map .int)] ∧ okX l' ∧ l'.length ≤ 60 * i + j ∧ 0 ≤ m' ∧ m' < 2147483647 ∧ ∃ x4, env = [some (.scr ns), some (.lref 0), some (.int c), some (.int r), x4, some (.int m')]) (j := 0) (fun i2 d2 env2 S2 K2 hd2 hi2 hk2 => ?_) ⟨l, _, rfl, hx, by omega, f0.1, f0.2, _, rfl⟩ (fun env2 S2 hi2 => ?_)
      · obtain ⟨l', m', rfl, hx', hn', hm0, hm1, x4', rfl⟩ := hi2
        obtain ⟨rfl, h12⟩ := range_get hd2
        have h12' : i2 < 12 := h12
        refine ⟨trivial, ?_⟩
        have f := fmod_lt (a := m' * 16807 + 69621 * (i2 : Int) + 5) (b := 2147483629) (by decide)
        ((try simp only [SD.startD, List.length_cons, List.length_nil, List.map_cons, List.map_nil, List.replicate_succ, List.replicate_zero, List.cons_append, List.nil_append, Nat.reduceAdd, Nat.reduceSub, Nat.zero_add]); simp only [↓SD.ev_nil, ↓SD.ev_seq, ↓SD.ev_next, ↓SD.ev_break, ↓SD.ev_cont, ↓SD.ev_expr, ↓SD.ev_ret, ↓SD.ev_retN, ↓SD.ev_asg, ↓SD.ev_aug, ↓SD.ev_if, ↓SD.ev_for, ↓SD.ev_raise, ↓SD.ev_try, ↓SD.ev_var, ↓SD.ev_c, ↓SD.ev_glob, ↓SD.ev_tup, ↓SD.ev_lst, ↓SD.ev_bin, ↓SD.ev_un, ↓SD.ev_b1, ↓SD.ev_tE, ↓SD.ev_tNot, ↓SD.ev_tAnd, ↓SD.ev_tOr, ↓SD.ev_tYes, ↓SD.ev_not, ↓SD.ev_and, ↓SD.ev_or, ↓SD.ev_ifE, ↓SD.ev_cmp, ↓SD.ev_chain, ↓SD.ev_ix, ↓SD.ev_slice, ↓SD.ev_part1, ↓SD.ev_part0, ↓SD.ev_call, ↓SD.ev_callV, ↓SD.ev_app, ↓SD.ev_gVar, ↓SD.ev_gTup, ↓SD.ev_gIx, ↓SD.ev_iE, ↓SD.ev_iRange1, ↓SD.ev_iRange2, ↓SD.ev_iZip, ↓SD.ev_comp, ↓SD.ev_tupC, ↓SD.ev_allC, ↓SD.ev_anyC, ↓SD.ev_cComp, ↓SD.eList, ↓SD.gSeq, ↓SD.look_zero, ↓SD.look_succ, ↓SD.isa_non, ↓SD.isa_bl, ↓SD.isa_int, ↓SD.isa_str, ↓SD.isa_tup, ↓SD.isa_lref, ↓SD.ite_tt, ↓SD.ite_ff, SD.add_1, SD.add_2, SD.add_3, SD.add_4, SD.sub_1, SD.sub_2, SD.mul_1, SD.mul_2, SD.fdiv_1, SD.mod_1, SD.pow_1, SD.neg_1, SD.tr_non, SD.tr_bl, SD.tr_int, SD.tr_str, SD.tr_tup, SD.tr_lref, SD.lt_1, SD.le_1, SD.is_1, SD.is_2, SD.is_3, SD.is_4, SD.is_5, SD.is_6, SD.is_7, SD.cmp_eq, SD.cmp_ne, SD.cmp_lt, SD.cmp_le, SD.cmp_gt, SD.cmp_ge, SD.cmp_is, SD.cmp_isnot, SD.cmp_in, SD.cmp_notin, SD.eqk_int, SD.eqk_bl, SD.ix_tup, SD.ix_lref, SD.len_tup, SD.len_lref, SD.len_str, SD.abs_int, SD.int_int, SD.int_bl, SD.tuple_tup, SD.tuple_lref, SD.list_tup, SD.list_lref, SD.witer_tup, SD.witer_lref, SD.wzip_tup, SD.wipe_nil, SD.wipe_cons, SD.tru_nil, SD.tru_bl, SD.dE, SD.pairs, SD.allD, SD.anyD, SD.atI_0, SD.atI_1, SD.atI_2, SD.atI_3, SD.isa_NoneType_int, SD.isa_NoneType_bool, SD.isa_NoneType_str, SD.isa_NoneType_tuple, SD.isa_NoneType_list, SD.isa_bool_int, SD.isa_bool_bool, SD.isa_bool_str, SD.isa_bool_tuple, SD.isa_bool_list, SD.isa_int_int, SD.isa_int_bool, SD.isa_int_str, SD.isa_int_tuple, SD.isa_int_list, SD.isa_str_int, SD.isa_str_bool, SD.isa_str_str, SD.isa_str_tuple, SD.isa_str_list, SD.isa_tuple_int, SD.isa_tuple_bool, SD.isa_tuple_str, SD.isa_tuple_tuple, SD.isa_tuple_list, SD.isa_list_int, SD.isa_list_bool, SD.isa_list_str, SD.isa_list_tuple, SD.isa_list_list, List.length_cons, List.length_nil, List.map_cons, List.map_nil, List.set_cons_zero, List.set_cons_succ, List.replicate_succ, List.replicate_zero, List.cons_append, List.nil_append, List.zipWith_cons_cons, List.zipWith_nil_left, Nat.add_sub_cancel, Nat.reduceAdd, Nat.reduceSub, Nat.zero_add, Nat.sub_self, and_true, true_and, reduceCtorEq, if_true, if_false, ite_true, ite_false, Bool.false_eq_true, Bool.not_true, Bool.not_false, decide_eq_true_eq, app_1, cell_0, set_0, map_app])
        refine ⟨mulOk_small (by omega) (by decide), mulOk_small (by decide) (by omega), by decide, by decide, small_app (n := 3900) (by omega) (by decide), ?_⟩
        refine hk2 _ _ ⟨l' ++ [(Int.fmod (m' * 16807 + 69621 * (i2 : Int) + 5) 2147483629).fdiv 1009], _, rfl, okX_app hx' (fdiv_nn f.1) (fdiv_up f.1 f.2), by rw [List.length_append]; simp; omega, f.1, by omega, _, rfl⟩
      · obtain ⟨l', m', rfl, hx', hn', hm0, hm1, x4', rfl⟩ := hi2
        rw [range_len] at hn'
        refine ⟨trivial, ?_⟩
        refine hk _ _ ⟨l', rfl, hx', ?_, _, _, _, _, rfl⟩
        have : (12 : Int).toNat = 12 := rfl
        omega
  · obtain ⟨l, rfl, hx, hn, x2, x3, x4, x5, rfl⟩ := hi
    refine ⟨rfl, ?_⟩
    ((try simp only [SD.startD, List.length_cons, List.length_nil, List.map_cons, List.map_nil, List.replicate_succ, List.replicate_zero, List.cons_append, List.nil_append, Nat.reduceAdd, Nat.reduceSub, Nat.zero_add]); simp only [↓SD.ev_nil, ↓SD.ev_seq, ↓SD.ev_next, ↓SD.ev_break, ↓SD.ev_cont, ↓SD.ev_expr, ↓SD.ev_ret, ↓SD.ev_retN, ↓SD.ev_asg, ↓SD.ev_aug, ↓SD.ev_if, ↓SD.ev_for, ↓SD.ev_raise, ↓SD.ev_try, ↓SD.ev_var, ↓SD.ev_c, ↓SD.ev_glob, ↓SD.ev_tup, ↓SD.ev_lst, ↓SD.ev_bin, ↓SD.ev_un, ↓SD.ev_b1, ↓SD.ev_tE, ↓SD.ev_tNot, ↓SD.ev_tAnd, ↓SD.ev_tOr, ↓SD.ev_tYes, ↓SD.ev_not, ↓SD.ev_and, ↓SD.ev_or, ↓SD.ev_ifE, ↓SD.ev_cmp, ↓SD.ev_chain, ↓SD.ev_ix, ↓SD.ev_slice, ↓SD.ev_part1, ↓SD.ev_part0, ↓SD.ev_call, ↓SD.ev_callV, ↓SD.ev_app, ↓SD.ev_gVar, ↓SD.ev_gTup, ↓SD.ev_gIx, ↓SD.ev_iE, ↓SD.ev_iRange1, ↓SD.ev_iRange2, ↓SD.ev_iZip, ↓SD.ev_comp, ↓SD.ev_tupC, ↓SD.ev_allC, ↓SD.ev_anyC, ↓SD.ev_cComp, ↓SD.eList, ↓SD.gSeq, ↓SD.look_zero, ↓SD.look_succ, ↓SD.isa_non, ↓SD.isa_bl, ↓SD.isa_int, ↓SD.isa_str, ↓SD.isa_tup, ↓SD.isa_lref, ↓SD.ite_tt, ↓SD.ite_ff, SD.add_1, SD.add_2, SD.add_3, SD.add_4, SD.sub_1, SD.sub_2, SD.mul_1, SD.mul_2, SD.fdiv_1, SD.mod_1, SD.pow_1, SD.neg_1, SD.tr_non, SD.tr_bl, SD.tr_int, SD.tr_str, SD.tr_tup, SD.tr_lref, SD.lt_1, SD.le_1, SD.is_1, SD.is_2, SD.is_3, SD.is_4, SD.is_5, SD.is_6, SD.is_7, SD.cmp_eq, SD.cmp_ne, SD.cmp_lt, SD.cmp_le, SD.cmp_gt, SD.cmp_ge, SD.cmp_is, SD.cmp_isnot, SD.cmp_in, SD.cmp_notin, SD.eqk_int, SD.eqk_bl, SD.ix_tup, SD.ix_lref, SD.len_tup, SD.len_lref, SD.len_str, SD.abs_int, SD.int_int, SD.int_bl, SD.tuple_tup, SD.tuple_lref, SD.list_tup, SD.list_lref, SD.witer_tup, SD.witer_lref, SD.wzip_tup, SD.wipe_nil, SD.wipe_cons, SD.tru_nil, SD.tru_bl, SD.dE, SD.pairs, SD.allD, SD.anyD, SD.atI_0, SD.atI_1, SD.atI_2, SD.atI_3, SD.isa_NoneType_int, SD.isa_NoneType_bool, SD.isa_NoneType_str, SD.isa_NoneType_tuple, SD.isa_NoneType_list, SD.isa_bool_int, SD.isa_bool_bool, SD.isa_bool_str, SD.isa_bool_tuple, SD.isa_bool_list, SD.isa_int_int, SD.isa_int_bool, SD.isa_int_str, SD.isa_int_tuple, SD.isa_int_list, SD.isa_str_int, SD.isa_str_bool, SD.isa_str_str, SD.isa_str_tuple, SD.isa_str_list, SD.isa_tuple_int, SD.isa_tuple_bool, SD.isa_tuple_str, SD.isa_tuple_tuple, SD.isa_tuple_list, SD.isa_list_int, SD.isa_list_bool, SD.isa_list_str, SD.isa_list_tuple, SD.isa_list_list, List.length_cons, List.length_nil, List.map_cons, List.map_nil, List.set_cons_zero, List.set_cons_succ, List.replicate_succ, List.replicate_zero, List.cons_append, List.nil_append, List.zipWith_cons_cons, List.zipWith_nil_left, Nat.add_sub_cancel, Nat.reduceAdd, Nat.reduceSub, Nat.zero_add, Nat.sub_self, and_true, true_and, reduceCtorEq, if_true, if_false, ite_true, ite_false, Bool.false_eq_true, Bool.not_true, Bool.not_false, decide_eq_true_eq])
    rw [List.length_map] at hn
    exact trQ_new (S := []) (clInts l) (h l hx (by omega))
end SP

-- SQi
set_option Elab.async false
set_option linter.all false
set_option maxRecDepth 100000
set_option maxHeartbeats 1000000
namespace SP
open PySem L2 SD SL
/-- what an expression gives, told first -/
theorem cutE {e : SE} {env : SD.Env} {S : Store} {E : QX} {K : QV} (P : D → Store → Prop) (h1 : ∀ K' : QV, (∀ d S', P d S' → K' d S') → e env S E K') (h2 : ∀ d S', P d S' → K d S') : e env S E K := h1 K h2
/-- the first k of a text, then the others -/
theorem seq_split (k : Nat) : ∀ {l : List SS} {W : DEnds} {env : SD.Env} {S : Store}, sSeq l W env S = sSeq (l.take k) { W with nx := sSeq (l.drop k) W } env S := by
  induction k with
  | zero => intro l W env S; rfl
  | succ k ih =>
    intro l W env S
    cases l with
    | nil => rfl
    | cons s l =>
      show s { W with nx := sSeq l W } env S = s { W with nx := sSeq (l.take k) { W with nx := sSeq (l.drop k) W } } env S
      have : sSeq l W = sSeq (l.take k) { W with nx := sSeq (l.drop k) W } := by
        funext env S
        exact ih
      rw [this]
theorem lway_eq {xs : List Int} {p w : Int} {R : Store} {E : QX} {Q : QV} : sp_lway.sp [.int w, .lref 0, .lref 1] (dSt xs p R) E Q = ((okX xs ∧ xs.length ≤ 1000000 ∧ 0 ≤ p ∧ p ≤ 800000000 ∧ 1 ≤ w ∧ w ≤ 10) ∧ ∀ v p', smW v → BW 4 v → p ≤ p' → p' ≤ p + 12 → Q (wy v) (dSt xs p' R)) := by
  refine propext ⟨fun ⟨ys, q, R', m', e1, e2, h⟩ => ?_, fun h => ⟨xs, p, R, w, rfl, rfl, h⟩⟩
  obtain ⟨rfl, rfl, rfl⟩ := dSt_inj e2
  cases e1
  exact h
theorem lway_n : sp_lway.n = 3 := rfl
theorem same_n : sp_same.n = 2 := rfl
theorem same_eq {d : D} {S : Store} {E : QX} {Q : QV} : sp_same.sp [d, d] S E Q = ((noL d = true ∧ Fit 20 8000 d) ∧ Q (.bl true) S) := by
  refine propext ⟨fun ⟨d', e, h⟩ => ?_, fun h => ⟨d, rfl, h⟩⟩
  cases e
  exact h
theorem same_in {d e : D} {S : Store} {E : QX} {Q : QV} (he : d = e) (h : (noL d = true ∧ Fit 20 8000 d) ∧ Q (.bl true) S) : sp_same.sp [d, e] S E Q := ⟨d, by rw [he], h⟩
/-- one of a list, known by what all of it have -/
theorem one_all {P : D → Prop} {xs : List Int} {p : Int} {R : Store} {k : Nat} {ys : List D} {E : QX} {Q : QV} (hk : R[k]? = some (.lst ys)) (h : okX xs ∧ xs.length ≤ 1000000 ∧ 0 ≤ p ∧ p ≤ 1000000000 ∧ ys ≠ [] ∧ clDs (R.length + 2) ys = true) (hP : ∀ d ∈ ys, P d) (q : ∀ d, P d → Q d (dSt xs (p + 1) R)) : sp_one.sp [.lref (k + 2), .lref 0, .lref 1] (dSt xs p R) E Q :=
  one_eq hk ⟨h, fun d m => q d (hP d m)⟩
theorem smQ_of_B {q : Rat} (h : B 19 q) : smQ q := by
  obtain ⟨h1, h2⟩ := h
  exact ⟨by omega, by omega, by omega⟩
theorem smW_of_B {v : W3} (h : BW 19 v) : smW v := by
  exact ⟨smQ_of_B h.1, smQ_of_B h.2.1, smQ_of_B h.2.2⟩
theorem ret_ok {xs : List Int} {p v : Int} {R g : Store} {Q : QV} {d : D} (hc : ∀ n, clD n d = true) (h : Q d (dSt xs v R)) : trQ (dSt xs p R) Q d (dSt xs v (R ++ g)) := ⟨_, cut_app, hc _, h⟩
theorem ret_ok0 {xs : List Int} {p v : Int} {R : Store} {Q : QV} {d : D} (hc : ∀ n, clD n d = true) (h : Q d (dSt xs v R)) : trQ (dSt xs p R) Q d (dSt xs v R) := ⟨_, cut_at, hc _, h⟩
theorem cls_wy {n : Nat} {a b c d : Rat} : True := trivial
theorem fit_ang {n : Nat} {s : Int} {q : Rat} (hs : s.natAbs ≤ 1) (h : B 1900 q) : Fit (n + 2) 6 (angD s q) := by
  refine fit_tup (c := 2) (fun d m => ?_) (by simp)
  rcases List.mem_cons.mp m with rfl | m
  · exact fit_int (Nat.lt_of_le_of_lt hs (Nat.one_lt_two_pow (by decide)))
  · rcases List.mem_cons.mp m with rfl | m
    · exact fit_fr h
    · cases m
end SP

-- SQj
set_option Elab.async false
set_option linter.all false
set_option maxRecDepth 100000
set_option maxHeartbeats 1000000
namespace SP
open PySem L2 SD SL
/-! ### what stands behind an expression is held till the expression is known -/
class HV where q : QV
class HB where q : Bool → Prop
class HD where q : D → Prop
class HL where q : List D → Prop
class HS where q : Store → Prop
class HI where q : List D → (Store → Prop) → Store → Prop
class HQ where q : QL
section
variable {x y z : D} {S : Store} {Q : QV} {K : Bool → Prop} {E : QX} {R : Prop}
def addDH (x y : D) (S : Store) [h : HV] : Prop := addD x y S h.q
theorem p_addD : addD x y S Q = @addDH x y S ⟨Q⟩ := propext Iff.rfl
theorem u_addD : @addDH x y S ⟨Q⟩ = addD x y S Q := propext Iff.rfl
theorem h_addD (e_ : addD x y S Q = R) : @addDH x y S ⟨Q⟩ = R := e_
def subDH (x y : D) (S : Store) [h : HV] : Prop := subD x y S h.q
theorem p_subD : subD x y S Q = @subDH x y S ⟨Q⟩ := propext Iff.rfl
theorem u_subD : @subDH x y S ⟨Q⟩ = subD x y S Q := propext Iff.rfl
theorem h_subD (e_ : subD x y S Q = R) : @subDH x y S ⟨Q⟩ = R := e_
def mulDH (x y : D) (S : Store) [h : HV] : Prop := mulD x y S h.q
theorem p_mulD : mulD x y S Q = @mulDH x y S ⟨Q⟩ := propext Iff.rfl
theorem u_mulD : @mulDH x y S ⟨Q⟩ = mulD x y S Q := propext Iff.rfl
theorem h_mulD (e_ : mulD x y S Q = R) : @mulDH x y S ⟨Q⟩ = R := e_
def fdivDH (x y : D) (S : Store) [h : HV] : Prop := fdivD x y S h.q
theorem p_fdivD : fdivD x y S Q = @fdivDH x y S ⟨Q⟩ := propext Iff.rfl
theorem u_fdivD : @fdivDH x y S ⟨Q⟩ = fdivD x y S Q := propext Iff.rfl
theorem h_fdivD (e_ : fdivD x y S Q = R) : @fdivDH x y S ⟨Q⟩ = R := e_
def modDH (x y : D) (S : Store) [h : HV] : Prop := modD x y S h.q
theorem p_modD : modD x y S Q = @modDH x y S ⟨Q⟩ := propext Iff.rfl
theorem u_modD : @modDH x y S ⟨Q⟩ = modD x y S Q := propext Iff.rfl
theorem h_modD (e_ : modD x y S Q = R) : @modDH x y S ⟨Q⟩ = R := e_
def powDH (x y : D) (S : Store) [h : HV] : Prop := powD x y S h.q
theorem p_powD : powD x y S Q = @powDH x y S ⟨Q⟩ := propext Iff.rfl
theorem u_powD : @powDH x y S ⟨Q⟩ = powD x y S Q := propext Iff.rfl
theorem h_powD (e_ : powD x y S Q = R) : @powDH x y S ⟨Q⟩ = R := e_
def ixDH (x y : D) (S : Store) [h : HV] : Prop := ixD x y S h.q
theorem p_ixD : ixD x y S Q = @ixDH x y S ⟨Q⟩ := propext Iff.rfl
theorem u_ixD : @ixDH x y S ⟨Q⟩ = ixD x y S Q := propext Iff.rfl
theorem h_ixD (e_ : ixD x y S Q = R) : @ixDH x y S ⟨Q⟩ = R := e_
def appendDH (x y : D) (S : Store) [h : HV] : Prop := appendD x y S h.q
theorem p_appendD : appendD x y S Q = @appendDH x y S ⟨Q⟩ := propext Iff.rfl
theorem u_appendD : @appendDH x y S ⟨Q⟩ = appendD x y S Q := propext Iff.rfl
theorem h_appendD (e_ : appendD x y S Q = R) : @appendDH x y S ⟨Q⟩ = R := e_
def negDH (x : D) (S : Store) [h : HV] : Prop := negD x S h.q
theorem p_negD : negD x S Q = @negDH x S ⟨Q⟩ := propext Iff.rfl
theorem u_negD : @negDH x S ⟨Q⟩ = negD x S Q := propext Iff.rfl
theorem h_negD (e_ : negD x S Q = R) : @negDH x S ⟨Q⟩ = R := e_
def lenDH (x : D) (S : Store) [h : HV] : Prop := lenD x S h.q
theorem p_lenD : lenD x S Q = @lenDH x S ⟨Q⟩ := propext Iff.rfl
theorem u_lenD : @lenDH x S ⟨Q⟩ = lenD x S Q := propext Iff.rfl
theorem h_lenD (e_ : lenD x S Q = R) : @lenDH x S ⟨Q⟩ = R := e_
def absDH (x : D) (S : Store) [h : HV] : Prop := absD x S h.q
theorem p_absD : absD x S Q = @absDH x S ⟨Q⟩ := propext Iff.rfl
theorem u_absD : @absDH x S ⟨Q⟩ = absD x S Q := propext Iff.rfl
theorem h_absD (e_ : absD x S Q = R) : @absDH x S ⟨Q⟩ = R := e_
def intDH (x : D) (S : Store) [h : HV] : Prop := intD x S h.q
theorem p_intD : intD x S Q = @intDH x S ⟨Q⟩ := propext Iff.rfl
theorem u_intD : @intDH x S ⟨Q⟩ = intD x S Q := propext Iff.rfl
theorem h_intD (e_ : intD x S Q = R) : @intDH x S ⟨Q⟩ = R := e_
def tupleDH (x : D) (S : Store) [h : HV] : Prop := tupleD x S h.q
theorem p_tupleD : tupleD x S Q = @tupleDH x S ⟨Q⟩ := propext Iff.rfl
theorem u_tupleD : @tupleDH x S ⟨Q⟩ = tupleD x S Q := propext Iff.rfl
theorem h_tupleD (e_ : tupleD x S Q = R) : @tupleDH x S ⟨Q⟩ = R := e_
def listDH (x : D) (S : Store) [h : HV] : Prop := listD x S h.q
theorem p_listD : listD x S Q = @listDH x S ⟨Q⟩ := propext Iff.rfl
theorem u_listD : @listDH x S ⟨Q⟩ = listD x S Q := propext Iff.rfl
theorem h_listD (e_ : listD x S Q = R) : @listDH x S ⟨Q⟩ = R := e_
def reprDH (x : D) (S : Store) [h : HV] : Prop := reprD x S h.q
theorem p_reprD : reprD x S Q = @reprDH x S ⟨Q⟩ := propext Iff.rfl
theorem u_reprD : @reprDH x S ⟨Q⟩ = reprD x S Q := propext Iff.rfl
theorem h_reprD (e_ : reprD x S Q = R) : @reprDH x S ⟨Q⟩ = R := e_
def truthDH (x : D) (S : Store) [h : HB] : Prop := truthD x S h.q
theorem p_truthD : truthD x S K = @truthDH x S ⟨K⟩ := propext Iff.rfl
theorem u_truthD : @truthDH x S ⟨K⟩ = truthD x S K := propext Iff.rfl
theorem h_truthD (e_ : truthD x S K = R) : @truthDH x S ⟨K⟩ = R := e_
def eqKH (x y : D) (S : Store) [h : HB] : Prop := eqK x y S h.q
theorem p_eqK : eqK x y S K = @eqKH x y S ⟨K⟩ := propext Iff.rfl
theorem u_eqK : @eqKH x y S ⟨K⟩ = eqK x y S K := propext Iff.rfl
theorem h_eqK (e_ : eqK x y S K = R) : @eqKH x y S ⟨K⟩ = R := e_
def ltKH (x y : D) (S : Store) [h : HB] : Prop := ltK x y S h.q
theorem p_ltK : ltK x y S K = @ltKH x y S ⟨K⟩ := propext Iff.rfl
theorem u_ltK : @ltKH x y S ⟨K⟩ = ltK x y S K := propext Iff.rfl
theorem h_ltK (e_ : ltK x y S K = R) : @ltKH x y S ⟨K⟩ = R := e_
def leKH (x y : D) (S : Store) [h : HB] : Prop := leK x y S h.q
theorem p_leK : leK x y S K = @leKH x y S ⟨K⟩ := propext Iff.rfl
theorem u_leK : @leKH x y S ⟨K⟩ = leK x y S K := propext Iff.rfl
theorem h_leK (e_ : leK x y S K = R) : @leKH x y S ⟨K⟩ = R := e_
def isKH (x y : D) (S : Store) [h : HB] : Prop := isK x y S h.q
theorem p_isK : isK x y S K = @isKH x y S ⟨K⟩ := propext Iff.rfl
theorem u_isK : @isKH x y S ⟨K⟩ = isK x y S K := propext Iff.rfl
theorem h_isK (e_ : isK x y S K = R) : @isKH x y S ⟨K⟩ = R := e_
def inKH (x y : D) (S : Store) [h : HB] : Prop := inK x y S h.q
theorem p_inK : inK x y S K = @inKH x y S ⟨K⟩ := propext Iff.rfl
theorem u_inK : @inKH x y S ⟨K⟩ = inK x y S K := propext Iff.rfl
theorem h_inK (e_ : inK x y S K = R) : @inKH x y S ⟨K⟩ = R := e_
def iterDH (x : D) (S : Store) [h : HI] : Prop := iterD x S h.q
theorem p_iterD {QI : List D → (Store → Prop) → Store → Prop} : iterD x S QI = @iterDH x S ⟨QI⟩ := propext Iff.rfl
theorem u_iterD {QI : List D → (Store → Prop) → Store → Prop} : @iterDH x S ⟨QI⟩ = iterD x S QI := propext Iff.rfl
theorem h_iterD {QI : List D → (Store → Prop) → Store → Prop} (e_ : iterD x S QI = R) : @iterDH x S ⟨QI⟩ = R := e_
def zipDH (x y : D) (S : Store) [h : HI] : Prop := zipD x y S h.q
theorem p_zipD {QI : List D → (Store → Prop) → Store → Prop} : zipD x y S QI = @zipDH x y S ⟨QI⟩ := propext Iff.rfl
theorem u_zipD {QI : List D → (Store → Prop) → Store → Prop} : @zipDH x y S ⟨QI⟩ = zipD x y S QI := propext Iff.rfl
theorem h_zipD {QI : List D → (Store → Prop) → Store → Prop} (e_ : zipD x y S QI = R) : @zipDH x y S ⟨QI⟩ = R := e_
def setDH (x y z : D) (S : Store) [h : HS] : Prop := setD x y z S h.q
theorem p_setD {QS : Store → Prop} : setD x y z S QS = @setDH x y z S ⟨QS⟩ := propext Iff.rfl
theorem u_setD {QS : Store → Prop} : @setDH x y z S ⟨QS⟩ = setD x y z S QS := propext Iff.rfl
theorem h_setD {QS : Store → Prop} (e_ : setD x y z S QS = R) : @setDH x y z S ⟨QS⟩ = R := e_
def sliceDH (x : D) (lo hi : Option Int) (S : Store) [h : HV] : Prop := sliceD x lo hi S h.q
theorem p_sliceD {lo hi : Option Int} : sliceD x lo hi S Q = @sliceDH x lo hi S ⟨Q⟩ := propext Iff.rfl
theorem u_sliceD {lo hi : Option Int} : @sliceDH x lo hi S ⟨Q⟩ = sliceD x lo hi S Q := propext Iff.rfl
theorem h_sliceD {lo hi : Option Int} (e_ : sliceD x lo hi S Q = R) : @sliceDH x lo hi S ⟨Q⟩ = R := e_
def attrDH (f : Str) (x : D) (S : Store) [h : HV] : Prop := attrD f x S h.q
theorem p_attrD {f : Str} : attrD f x S Q = @attrDH f x S ⟨Q⟩ := propext Iff.rfl
theorem u_attrD {f : Str} : @attrDH f x S ⟨Q⟩ = attrD f x S Q := propext Iff.rfl
theorem h_attrD {f : Str} (e_ : attrD f x S Q = R) : @attrDH f x S ⟨Q⟩ = R := e_
def lookH (env : SD.Env) (i : Nat) [h : HD] : Prop := look env i h.q
theorem p_look {env : SD.Env} {i : Nat} {QD : D → Prop} : look env i QD = @lookH env i ⟨QD⟩ := propext Iff.rfl
theorem u_look {env : SD.Env} {i : Nat} {QD : D → Prop} : @lookH env i ⟨QD⟩ = look env i QD := propext Iff.rfl
theorem h_look {env : SD.Env} {i : Nat} {QD : D → Prop} (e_ : look env i QD = R) : @lookH env i ⟨QD⟩ = R := e_
def cellLH (S : Store) (k : Nat) [h : HL] : Prop := cellL S k h.q
theorem p_cellL {k : Nat} {QC : List D → Prop} : cellL S k QC = @cellLH S k ⟨QC⟩ := propext Iff.rfl
theorem u_cellL {k : Nat} {QC : List D → Prop} : @cellLH S k ⟨QC⟩ = cellL S k QC := propext Iff.rfl
theorem h_cellL {k : Nat} {QC : List D → Prop} (e_ : cellL S k QC = R) : @cellLH S k ⟨QC⟩ = R := e_
def allDH (ys : List D) (S : Store) [h : HV] : Prop := allD ys S h.q
theorem p_allD {ys : List D} : allD ys S Q = @allDH ys S ⟨Q⟩ := propext Iff.rfl
theorem u_allD {ys : List D} : @allDH ys S ⟨Q⟩ = allD ys S Q := propext Iff.rfl
theorem h_allD {ys : List D} (e_ : allD ys S Q = R) : @allDH ys S ⟨Q⟩ = R := e_
def anyDH (ys : List D) (S : Store) [h : HV] : Prop := anyD ys S h.q
theorem p_anyD {ys : List D} : anyD ys S Q = @anyDH ys S ⟨Q⟩ := propext Iff.rfl
theorem u_anyD {ys : List D} : @anyDH ys S ⟨Q⟩ = anyD ys S Q := propext Iff.rfl
theorem h_anyD {ys : List D} (e_ : anyD ys S Q = R) : @anyDH ys S ⟨Q⟩ = R := e_
def compLoopH (keep : Store → Prop) (g : SG) (t : ST) (e : SE) (env : SD.Env) (ds : List D) (S : Store) [h : HQ] : Prop := compLoop keep g t e env ds S h.q
theorem p_compLoop {keep : Store → Prop} {g : SG} {t : ST} {e : SE} {env : SD.Env} {ds : List D} {KQ : QL} : compLoop keep g t e env ds S KQ = @compLoopH keep g t e env ds S ⟨KQ⟩ := propext Iff.rfl
theorem u_compLoop {keep : Store → Prop} {g : SG} {t : ST} {e : SE} {env : SD.Env} {ds : List D} {KQ : QL} : @compLoopH keep g t e env ds S ⟨KQ⟩ = compLoop keep g t e env ds S KQ := propext Iff.rfl
theorem h_compLoop {keep : Store → Prop} {g : SG} {t : ST} {e : SE} {env : SD.Env} {ds : List D} {KQ : QL} (e_ : compLoop keep g t e env ds S KQ = R) : @compLoopH keep g t e env ds S ⟨KQ⟩ = R := e_
def spH (f : FnD) (ds : List D) (S : Store) (E : QX) [h : HV] : Prop := f.sp ds S E h.q
theorem p_sp {f : FnD} {ds : List D} : f.sp ds S E Q = @spH f ds S E ⟨Q⟩ := propext Iff.rfl
theorem u_sp {f : FnD} {ds : List D} : @spH f ds S E ⟨Q⟩ = f.sp ds S E Q := propext Iff.rfl
theorem h_sp {f : FnD} {ds : List D} (e_ : f.sp ds S E Q = R) : @spH f ds S E ⟨Q⟩ = R := e_
/-! calls and names, known -/
theorem cl {T : Tab} {n : Str} {f : FnD} (h : T.sp n = some f) {es : List SE} {env : SD.Env} : eCall T n es env S E Q = (es.length = f.n ∧ eList es env S E fun ds S1 => f.sp ds S1 E Q) := by
  rw [ev_call, h]
theorem gl {T : Tab} {n : Str} {d : D} (h : T.glob n = some d) {env : SD.Env} : eGlob T n env S E Q = Q d S := by
  rw [ev_glob, h]
end
end SP
namespace SF
open PySem L2 SD SP
theorem k_look_zero {d : D} {env : SD.Env} {Q : D → Prop} : @lookH (some d :: env) 0 ⟨Q⟩ = Q d := h_look SD.look_zero
theorem k_look_succ {a : Option D} {env : SD.Env} {n : Nat} {Q : D → Prop} : @lookH (a :: env) (n + 1) ⟨Q⟩ = look env n Q := h_look SD.look_succ
section
variable {D : DEnds} {env : SD.Env} {S : Store} {E : QX} {Q : QV} {T : Tab} {a b c : SE} {t u : ST} {s s2 : SS} {r : List SS} {es : List SE} {d : SD.D} {QB : QB} {QN : QN} {g : SG} {gs : List SG} {it : SI} {i j : Nat} {body : SS} {x : Str}
section
variable {QI : List SD.D → (Store → Prop) → Store → Prop} {own : List Nat}
end
end
theorem k_add_1 {i j : Int} {S : Store} {Q : QV} : @addDH (.int i) (.int j) S ⟨Q⟩ = Q (.int (i + j)) S := h_addD SD.add_1
theorem k_add_2 {i j : Str} {S : Store} {Q : QV} : @addDH (.str i) (.str j) S ⟨Q⟩ = (i.length + j.length ≤ sizeLine ∧ Q (.str (i ++ j)) S) := h_addD SD.add_2
theorem k_add_3 {i j : List D} {S : Store} {Q : QV} : @addDH (.tup i) (.tup j) S ⟨Q⟩ = (i.length + j.length ≤ sizeLine ∧ Q (.tup (i ++ j)) S) := h_addD SD.add_3
theorem k_add_4 {a b : Nat} {S : Store} {Q : QV} : @addDH (.lref a) (.lref b) S ⟨Q⟩ = cellL S a fun xs => cellL S b fun ys => xs.length + ys.length ≤ sizeLine ∧ Q (.lref S.length) (S ++ [.lst (xs ++ ys)]) := h_addD SD.add_4
theorem k_sub_1 {i j : Int} {S : Store} {Q : QV} : @subDH (.int i) (.int j) S ⟨Q⟩ = Q (.int (i - j)) S := h_subD SD.sub_1
theorem k_sub_2 {i j : Bool} {S : Store} {Q : QV} : @subDH (.bl i) (.bl j) S ⟨Q⟩ = Q (.int (b2i i - b2i j)) S := h_subD SD.sub_2
theorem k_mul_1 {i j : Int} {S : Store} {Q : QV} : @mulDH (.int i) (.int j) S ⟨Q⟩ = (mulOk i j ∧ Q (.int (i * j)) S) := h_mulD SD.mul_1
theorem k_mul_2 {a : Nat} {n : Int} {S : Store} {Q : QV} : @mulDH (.lref a) (.int n) S ⟨Q⟩ = cellL S a fun xs => -(2 ^ 63) ≤ n ∧ n < 2 ^ 63 ∧ xs.length * n.toNat ≤ sizeLine ∧ Q (.lref S.length) (S ++ [.lst (List.replicate n.toNat xs).flatten]) := h_mulD SD.mul_2
theorem k_fdiv_1 {i j : Int} {S : Store} {Q : QV} : @fdivDH (.int i) (.int j) S ⟨Q⟩ = ((j ≠ 0 ∧ j.natAbs.log2 < 9000) ∧ Q (.int (i.fdiv j)) S) := h_fdivD SD.fdiv_1
theorem k_mod_1 {i j : Int} {S : Store} {Q : QV} : @modDH (.int i) (.int j) S ⟨Q⟩ = (j ≠ 0 ∧ Q (.int (i.fmod j)) S) := h_modD SD.mod_1
theorem k_pow_1 {i j : Int} {S : Store} {Q : QV} : @powDH (.int i) (.int j) S ⟨Q⟩ = ((0 ≤ j ∧ j ≤ 1000000 ∧ i.natAbs < 2 ^ 64) ∧ Q (.int (i ^ j.toNat)) S) := h_powD SD.pow_1
theorem k_neg_1 {i : Int} {S : Store} {Q : QV} : @negDH (.int i) S ⟨Q⟩ = Q (.int (-i)) S := h_negD SD.neg_1
section
variable {K : Bool → Prop} {S : Store} {x y : D}
theorem k_tr_non : @truthDH .non S ⟨K⟩ = K false := h_truthD SD.tr_non
theorem k_tr_bl {b : Bool} : @truthDH (.bl b) S ⟨K⟩ = K b := h_truthD SD.tr_bl
theorem k_tr_int {i : Int} : @truthDH (.int i) S ⟨K⟩ = K (i != 0) := h_truthD SD.tr_int
theorem k_tr_str {x : Str} : @truthDH (.str x) S ⟨K⟩ = (x.length ≤ sizeLine ∧ K (x.length != 0)) := h_truthD SD.tr_str
theorem k_tr_tup {xs : List D} : @truthDH (.tup xs) S ⟨K⟩ = K (!xs.isEmpty) := h_truthD SD.tr_tup
theorem k_tr_lref {k : Nat} : @truthDH (.lref k) S ⟨K⟩ = cellL S k fun xs => K (!xs.isEmpty) := h_truthD SD.tr_lref
theorem k_lt_1 {i j : Int} : @ltKH (.int i) (.int j) S ⟨K⟩ = K (decide (i < j)) := h_ltK SD.lt_1
theorem k_le_1 {i j : Int} : @leKH (.int i) (.int j) S ⟨K⟩ = K (decide (i ≤ j)) := h_leK SD.le_1
theorem k_is_1 : @isKH .non .non S ⟨K⟩ = K true := h_isK SD.is_1
theorem k_is_2 {b : Bool} : @isKH (.bl b) .non S ⟨K⟩ = K false := h_isK SD.is_2
theorem k_is_3 {i : Int} : @isKH (.int i) .non S ⟨K⟩ = K false := h_isK SD.is_3
theorem k_is_4 {x : Str} : @isKH (.str x) .non S ⟨K⟩ = K false := h_isK SD.is_4
theorem k_is_5 {xs : List D} : @isKH (.tup xs) .non S ⟨K⟩ = K false := h_isK SD.is_5
theorem k_is_6 {k : Nat} : @isKH (.lref k) .non S ⟨K⟩ = K false := h_isK SD.is_6
theorem k_is_7 {a b : Bool} : @isKH (.bl a) (.bl b) S ⟨K⟩ = K (decide (a = b)) := h_isK SD.is_7
theorem k_eqk_int {i j : Int} : @eqKH (.int i) (.int j) S ⟨K⟩ = K (decide (i = j)) := h_eqK SD.eqk_int
theorem k_eqk_bl {a b : Bool} : @eqKH (.bl a) (.bl b) S ⟨K⟩ = K (a == b) := h_eqK SD.eqk_bl
end
section
variable {S : Store} {Q : QV} {xs ys : List D} {i : Int} {k j : Nat} {QI : List D → (Store → Prop) → Store → Prop}
theorem k_ix_tup : @ixDH (.tup xs) (.int i) S ⟨Q⟩ = (match atI xs i with
  | some d => Q d S
  | none => False) := h_ixD SD.ix_tup
theorem k_ix_lref : @ixDH (.lref k) (.int i) S ⟨Q⟩ = cellL S k fun xs => match atI xs i with
    | some d => Q d S
    | none => False := h_ixD SD.ix_lref
theorem k_len_tup : @lenDH (.tup xs) S ⟨Q⟩ = Q (.int xs.length) S := h_lenD SD.len_tup
theorem k_len_lref : @lenDH (.lref k) S ⟨Q⟩ = cellL S k fun xs => Q (.int xs.length) S := h_lenD SD.len_lref
theorem k_len_str {x : Str} : @lenDH (.str x) S ⟨Q⟩ = (x.length ≤ sizeLine ∧ Q (.int x.length) S) := h_lenD SD.len_str
theorem k_abs_int : @absDH (.int i) S ⟨Q⟩ = Q (.int (if i < 0 then -i else i)) S := h_absD SD.abs_int
theorem k_int_int : @intDH (.int i) S ⟨Q⟩ = Q (.int i) S := h_intD SD.int_int
theorem k_int_bl {b : Bool} : @intDH (.bl b) S ⟨Q⟩ = Q (.int (b2i b)) S := h_intD SD.int_bl
theorem k_tuple_tup : @tupleDH (.tup xs) S ⟨Q⟩ = Q (.tup xs) S := h_tupleD SD.tuple_tup
theorem k_tuple_lref : @tupleDH (.lref k) S ⟨Q⟩ = cellL S k fun xs => Q (.tup xs) S := h_tupleD SD.tuple_lref
theorem k_list_tup : @listDH (.tup xs) S ⟨Q⟩ = Q (.lref S.length) (S ++ [.lst xs]) := h_listD SD.list_tup
theorem k_list_lref : @listDH (.lref k) S ⟨Q⟩ = cellL S k fun xs => Q (.lref S.length) (S ++ [.lst xs]) := h_listD SD.list_lref
theorem k_witer_tup : @iterDH (.tup xs) S ⟨QI⟩ = QI xs (fun _ => True) S := h_iterD SD.witer_tup
theorem k_witer_lref : @iterDH (.lref k) S ⟨QI⟩ = cellL S k fun xs => QI xs (fun S' => S'[k]? = some (.lst xs)) S := h_iterD SD.witer_lref
theorem k_wzip_tup : @zipDH (.tup xs) (.tup ys) S ⟨QI⟩ = QI (pairs xs ys) (fun _ => True) S := h_zipD SD.wzip_tup
end
section
variable {env : SD.Env} {S : Store} {E : QX} {Q : QV} {e : SE} {es : List SE} {K : QL} {g : SG} {gs : List SG} {d : SD.D} {ds : List SD.D} {N : QN} {keep : Store → Prop} {t : ST} {body : SS} {W : DEnds}
theorem el_nil : eList [] env S E K = K [] S := propext Iff.rfl
theorem el_cons : eList (e :: es) env S E K = e env S E fun d S1 => eList es env S1 E fun ds S2 => K (d :: ds) S2 := propext Iff.rfl
theorem gs_nil : gSeq [] [] env S E N = N env S := propext Iff.rfl
theorem gs_cons : gSeq (g :: gs) (d :: ds) env S E N = g d env S E fun env1 S1 => gSeq gs ds env1 S1 E N := propext Iff.rfl
theorem cp_nil : @compLoopH keep g t e env [] S ⟨K⟩ = (keep S ∧ K [] S) := propext Iff.rfl
theorem cp_cons : @compLoopH keep g t e env (d :: ds) S ⟨K⟩ = (keep S ∧ g d env S noX fun env1 S1 => t env1 S1 noX fun b S2 =>
    if b = true then e env1 S2 noX fun y S3 => compLoop keep g t e env ds S3 fun ys S4 => K (y :: ys) S4 else compLoop keep g t e env ds S2 K) := propext Iff.rfl
theorem fl_nil : forLoop keep g body W [] env S = (keep S ∧ W.nx env S) := propext Iff.rfl
theorem fl_cons : forLoop keep g body W (d :: ds) env S = (keep S ∧ g d env S noX fun env1 S1 =>
    body { W with nx := forLoop keep g body W ds, ct := forLoop keep g body W ds, bk := W.nx } env1 S1) := propext Iff.rfl
theorem alld : @allDH ds S ⟨Q⟩ = (match truths ds with
  | some bs => Q (.bl (bs.all id)) S
  | none => False) := propext Iff.rfl
theorem anyd : @anyDH ds S ⟨Q⟩ = (match truths ds with
  | some bs => Q (.bl (bs.any id)) S
  | none => False) := propext Iff.rfl
end
/-! the steps of a quick walk, together -/
def Pre0 :=
  (And.intro @SD.ev_nil (And.intro @SD.ev_seq (And.intro @SD.ev_next (And.intro @SD.ev_break (And.intro @SD.ev_cont (And.intro @SD.ev_expr (And.intro @SD.ev_ret (And.intro @SD.ev_retN (And.intro @SD.ev_asg (And.intro @SD.ev_aug (And.intro @SD.ev_if (And.intro @SD.ev_for (And.intro @SD.ev_raise (And.intro @SD.ev_try (And.intro @SD.ev_var (And.intro @SD.ev_c (And.intro @SD.ev_tup (And.intro @SD.ev_lst (And.intro @SD.ev_bin (And.intro @SD.ev_un (And.intro @SD.ev_b1 (And.intro @SD.ev_tE (And.intro @SD.ev_tNot (And.intro @SD.ev_tAnd (And.intro @SD.ev_tOr (And.intro @SD.ev_tYes (And.intro @SD.ev_not (And.intro @SD.ev_and (And.intro @SD.ev_or (And.intro @SD.ev_cmp (And.intro @SD.ev_chain (And.intro @SD.ev_ix (And.intro @SD.ev_slice (And.intro @SD.ev_part1 (And.intro @SD.ev_part0 (And.intro @SD.ev_callV (And.intro @SD.ev_app (And.intro @SD.ev_gVar (And.intro @SD.ev_gTup (And.intro @SD.ev_gIx (And.intro @SD.ev_iE (And.intro @SD.ev_iRange1 (And.intro @SD.ev_iRange2 (And.intro @SD.ev_iZip (And.intro @SD.ev_comp (And.intro @SD.ev_tupC (And.intro @SD.ev_allC (And.intro @SD.ev_anyC (And.intro @SD.ev_cComp (And.intro @SD.isa_non (And.intro @SD.isa_bl (And.intro @SD.isa_int (And.intro @SD.isa_str (And.intro @SD.isa_tup (And.intro @SD.isa_lref (And.intro @SD.ite_tt (And.intro @SD.ite_ff (And.intro @SD.cmp_eq (And.intro @SD.cmp_ne (And.intro @SD.cmp_lt (And.intro @SD.cmp_le (And.intro @SD.cmp_gt (And.intro @SD.cmp_ge (And.intro @SD.cmp_is (And.intro @SD.cmp_isnot (And.intro @SD.cmp_in (And.intro @SD.cmp_notin (And.intro @el_nil (And.intro @el_cons (And.intro @gs_nil (And.intro @gs_cons (And.intro @SP.p_addD (And.intro @SP.p_subD (And.intro @SP.p_mulD (And.intro @SP.p_fdivD (And.intro @SP.p_modD (And.intro @SP.p_powD (And.intro @SP.p_ixD (And.intro @SP.p_appendD (And.intro @SP.p_negD (And.intro @SP.p_lenD (And.intro @SP.p_absD (And.intro @SP.p_intD (And.intro @SP.p_tupleD (And.intro @SP.p_listD (And.intro @SP.p_reprD (And.intro @SP.p_truthD (And.intro @SP.p_eqK (And.intro @SP.p_ltK (And.intro @SP.p_leK (And.intro @SP.p_isK (And.intro @SP.p_inK (And.intro @SP.p_iterD (And.intro @SP.p_zipD (And.intro @SP.p_setD (And.intro @SP.p_sliceD (And.intro @SP.p_attrD (And.intro @SP.p_look (And.intro @SP.p_cellL (And.intro @SP.p_allD (And.intro @SP.p_anyD (And.intro @SP.p_compLoop @SP.p_sp))))))))))))))))))))))))))))))))))))))))))))))))))))))))))))))))))))))))))))))))))))))))))))))))))))))
def Post0 :=
  (And.intro @k_look_zero (And.intro @k_look_succ (And.intro @k_add_1 (And.intro @k_add_2 (And.intro @k_add_3 (And.intro @k_add_4 (And.intro @k_sub_1 (And.intro @k_sub_2 (And.intro @k_mul_1 (And.intro @k_mul_2 (And.intro @k_fdiv_1 (And.intro @k_mod_1 (And.intro @k_pow_1 (And.intro @k_neg_1 (And.intro @k_tr_non (And.intro @k_tr_bl (And.intro @k_tr_int (And.intro @k_tr_str (And.intro @k_tr_tup (And.intro @k_tr_lref (And.intro @k_lt_1 (And.intro @k_le_1 (And.intro @k_is_1 (And.intro @k_is_2 (And.intro @k_is_3 (And.intro @k_is_4 (And.intro @k_is_5 (And.intro @k_is_6 (And.intro @k_is_7 (And.intro @k_eqk_int (And.intro @k_eqk_bl (And.intro @k_ix_tup (And.intro @k_ix_lref (And.intro @k_len_tup (And.intro @k_len_lref (And.intro @k_len_str (And.intro @k_abs_int (And.intro @k_int_int (And.intro @k_int_bl (And.intro @k_tuple_tup (And.intro @k_tuple_lref (And.intro @k_list_tup (And.intro @k_list_lref (And.intro @k_witer_tup (And.intro @k_witer_lref (And.intro @k_wzip_tup (And.intro @alld (And.intro @anyd (And.intro @SD.wipe_nil (And.intro @SD.wipe_cons (And.intro @SD.tru_nil (And.intro @SD.tru_bl (And.intro @SD.atI_0 (And.intro @SD.atI_1 (And.intro @SD.atI_2 (And.intro @SD.atI_3 (And.intro @SD.isa_NoneType_int (And.intro @SD.isa_NoneType_bool (And.intro @SD.isa_NoneType_str (And.intro @SD.isa_NoneType_tuple (And.intro @SD.isa_NoneType_list (And.intro @SD.isa_bool_int (And.intro @SD.isa_bool_bool (And.intro @SD.isa_bool_str (And.intro @SD.isa_bool_tuple (And.intro @SD.isa_bool_list (And.intro @SD.isa_int_int (And.intro @SD.isa_int_bool (And.intro @SD.isa_int_str (And.intro @SD.isa_int_tuple (And.intro @SD.isa_int_list (And.intro @SD.isa_str_int (And.intro @SD.isa_str_bool (And.intro @SD.isa_str_str (And.intro @SD.isa_str_tuple (And.intro @SD.isa_str_list (And.intro @SD.isa_tuple_int (And.intro @SD.isa_tuple_bool (And.intro @SD.isa_tuple_str (And.intro @SD.isa_tuple_tuple (And.intro @SD.isa_tuple_list (And.intro @SD.isa_list_int (And.intro @SD.isa_list_bool (And.intro @SD.isa_list_str (And.intro @SD.isa_list_tuple @SD.isa_list_list)))))))))))))))))))))))))))))))))))))))))))))))))))))))))))))))))))))))))))))))))))))
def Un0 :=
  (And.intro @SP.u_addD (And.intro @SP.u_subD (And.intro @SP.u_mulD (And.intro @SP.u_fdivD (And.intro @SP.u_modD (And.intro @SP.u_powD (And.intro @SP.u_ixD (And.intro @SP.u_appendD (And.intro @SP.u_negD (And.intro @SP.u_lenD (And.intro @SP.u_absD (And.intro @SP.u_intD (And.intro @SP.u_tupleD (And.intro @SP.u_listD (And.intro @SP.u_reprD (And.intro @SP.u_truthD (And.intro @SP.u_eqK (And.intro @SP.u_ltK (And.intro @SP.u_leK (And.intro @SP.u_isK (And.intro @SP.u_inK (And.intro @SP.u_iterD (And.intro @SP.u_zipD (And.intro @SP.u_setD (And.intro @SP.u_sliceD (And.intro @SP.u_attrD (And.intro @SP.u_look (And.intro @SP.u_cellL (And.intro @SP.u_allD (And.intro @SP.u_anyD (And.intro @SP.u_compLoop @SP.u_sp)))))))))))))))))))))))))))))))
end SF

-- Yk00
set_option Elab.async false
set_option linter.all false
set_option maxRecDepth 100000
set_option maxHeartbeats 0
namespace K00
open PySem SD
def N__law_limits_right : List Str := ["told", "due"]
def t__law_limits_right (T : Tab) : SS := sSeq [sAsg (eLst [eGlob T "MAX_NUMBER", eGlob T "MAX_CORNERS", eGlob T "MAX_GROUP", eGlob T "MAX_TEXT", eGlob T "MAX_LINES", eGlob T "MAX_BALLS", eGlob T "MAX_ENTRY", eGlob T "MAX_WORD", eGlob T "MAX_FORM"]) (gVar 0), sAsg (eBin addD (eVar 0) (eLst [eGlob T "MAX_CYCLE", eGlob T "MAX_FACED", eGlob T "MAX_TURNED", eGlob T "MAX_CELLS", eGlob T "MAX_MIRRORS", eGlob T "MAX_ROUNDS", eGlob T "MAX_THINGS", eGlob T "MAX_CLIPPED", eGlob T "MAX_STARS"])) (gVar 0), sAsg (eBin addD (eVar 0) (eLst [eGlob T "MAX_LINED", eGlob T "MAX_WHOLE", eGlob T "MAX_BOXED", eGlob T "MAX_TRIED", eGlob T "MAX_SIDED", eGlob T "MAX_TILES", eGlob T "MAX_AROUND", eGlob T "MAX_GON"])) (gVar 0), sAsg (eLst [eC (.int 1000000), eC (.int 12), eC (.int 48), eC (.int 6000), eC (.int 200), eC (.int 8), eC (.int 100000), eC (.int 400), eC (.int 100000), eC (.int 4000), eC (.int 24), eC (.int 60), eC (.int 40), eC (.int 12), eC (.int 60), eC (.int 60), eC (.int 24), eC (.int 8), eC (.int 12), eC (.int 1000), eC (.int 4000), eC (.int 4000)]) (gVar 1), sAsg (eBin addD (eVar 1) (eLst [eC (.int 12), eC (.int 600), eC (.int 6), eC (.int 60)])) (gVar 1), sRet (eCmp .eq (eB1 reprD (eVar 0)) (eB1 reprD (eVar 1)))]
def N__law_raise : List Str := ["k", "one", "other"]
def t__law_raise (T : Tab) : SS := sSeq [sIf (tE (eCmp .eq (eVar 0) (eC (.int 0)))) (sSeq [sRaise T "ArgumentError" [eVar 1]]) (sSeq []), sIf (tE (eCmp .eq (eVar 0) (eC (.int 1)))) (sSeq [sRaise T "PaperError" [eVar 1]]) (sSeq []), sIf (tE (eCmp .eq (eVar 0) (eC (.int 2)))) (sSeq [sRaise T "TooMany" [eVar 1]]) (sSeq []), sIf (tE (eCmp .eq (eVar 0) (eC (.int 3)))) (sSeq [sRaise T "CheckError" [eVar 1]]) (sSeq []), sIf (tE (eCmp .eq (eVar 0) (eC (.int 4)))) (sSeq [sRaise T "TextError" [eVar 1]]) (sSeq []), sIf (tE (eCmp .eq (eVar 0) (eC (.int 5)))) (sSeq [sRaise T "LogError" [eVar 1, eVar 2]]) (sSeq []), sRaise T "CommandError" [eVar 1]]
def N__law_caught : List Str := ["k", "one", "other", "e"]
def t__law_caught (T : Tab) : SS := sSeq [sTry T (sSeq [sExpr (eCall T "_law_raise" [eVar 0, eVar 1, eVar 2])]) [("SpaceError", 3, eIf (tE (eInst T 3 "ValueError")) (eKin T "_law_kinds" 3) (eLst []))], sRet (eLst [])]
def N__law_fields : List Str := ["k", "one", "other", "e"]
def t__law_fields (T : Tab) : SS := sSeq [sTry T (sSeq [sExpr (eCall T "_law_raise" [eVar 0, eVar 1, eVar 2])]) [("ArgumentError", 3, eTup [eB1 (attrD "reason") (eVar 3)]), ("PaperError", 3, eTup [eB1 (attrD "reason") (eVar 3)]), ("TooMany", 3, eTup [eB1 (attrD "reason") (eVar 3)]), ("CheckError", 3, eTup [eB1 (attrD "reason") (eVar 3)]), ("TextError", 3, eTup [eB1 (attrD "at") (eVar 3)]), ("LogError", 3, eTup [eB1 (attrD "number") (eVar 3), eB1 (attrD "reason") (eVar 3)]), ("CommandError", 3, eTup [eB1 (attrD "line") (eVar 3)])], sRet (eC .non)]
def N_law : List Str := ["script", "draws", "at", "values", "k", "one", "other", "j"]
def t_law (T : Tab) : SS := sSeq [sAsg (eCall T "_law_draws" [eVar 0]) (gVar 1), sAsg (eLst [eC (.int 0)]) (gVar 2), sIf (tNot (tE (eCall T "_law_limits_right" []))) (sSeq [sRet (eC (.bl false))]) (sSeq []), sAsg (eLst [eC (.str "word"), eC (.str ""), eC (.str "form"), eC (.int 0), eC (.int 17), eUn negD (eC (.int 3)), eC .non, eTup [eC (.str "a"), eC (.int 5)], eC (.str "a line"), eC (.bl true)]) (gVar 3), sFor (iRange1 (eC (.int 7))) (gVar 4) (sSeq [sAsg (eTup [eCall T "_law_one" [eVar 3, eVar 1, eVar 2], eCall T "_law_one" [eVar 3, eVar 1, eVar 2]]) (gTup [gVar 5, gVar 6]), sIf (tE (eCmp .ne (eCall T "_law_caught" [eVar 4, eVar 5, eVar 6]) (eComp (iRange1 (eC (.int 7))) [7] (gVar 7) tYes (eCmp .eq (eVar 7) (eVar 4))))) (sSeq [sRet (eC (.bl false))]) (sSeq []), sIf (tE (eCmp .ne (eB1 reprD (eCall T "_law_fields" [eVar 4, eVar 5, eVar 6])) (eB1 reprD (eIf (tE (eCmp .eq (eVar 4) (eC (.int 5)))) (eTup [eVar 5, eVar 6]) (eTup [eVar 5]))))) (sSeq [sRet (eC (.bl false))]) (sSeq [])]), sRet (eC (.bl true))]
def N__law_kinds : List Str := ["e", "plain"]
def tk__law_kinds (T : Tab) : SS := sSeq [sAsg (eLst [eInst T 0 "ArgumentError", eInst T 0 "PaperError", eInst T 0 "TooMany", eInst T 0 "CheckError"]) (gVar 1), sRet (eBin addD (eVar 1) (eLst [eInst T 0 "TextError", eInst T 0 "LogError", eInst T 0 "CommandError"]))]
def kns : List (Str × (List Str × List Str)) := [("_law_kinds", (["ArgumentError", "PaperError", "TooMany", "CheckError"], ["TextError", "LogError", "CommandError"]))]
end K00

-- T0a
set_option Elab.async false
set_option linter.all false
set_option maxRecDepth 100000
set_option maxHeartbeats 4000000
namespace K00
open PySem L2 SD SL SP
def sp_lim : FnD := ⟨0, fun ds S _ Q => ds = [] ∧ Q (.bl true) S⟩
def lims : List D := [.int 1000000, .int 12, .int 48, .int 6000, .int 200, .int 8, .int 100000, .int 400, .int 100000, .int 4000, .int 24, .int 60, .int 40, .int 12, .int 60, .int 60, .int 24, .int 8, .int 12, .int 1000, .int 4000, .int 4000, .int 12, .int 600, .int 6, .int 60]
theorem lims_ok : okDs 20 lims = true := by decide +kernel
theorem lims_sh : shD (.list (toPys lims)) := by
  refine ⟨by decide +kernel, ?_⟩
  have h := PyData.shown_le_bulk 1921 (by decide) (.list (toPys lims)) (by decide +kernel)
  have h2 : (PyData.list (toPys lims)).bulk ≤ 8000 := by decide +kernel
  have h3 : (1921 + 2) * (PyData.list (toPys lims)).bulk ≤ 1923 * 8000 := Nat.mul_le_mul (Nat.le_refl _) (by omega)
  rw [sizeLine_eq]
  omega
theorem repr_lst {k : Nat} {xs : List D} {S : Store} {Q : QV} (h : S[k]? = some (.lst xs)) : reprD (.lref k) S Q = ((okDs 20 xs = true ∧ shD (.list (toPys xs))) ∧ Q (.str (PyData.list (toPys xs)).shown) S) := by
  show (cellL S k fun xs => _) = _
  rw [cellL_known h]
theorem cl_a {S : Store} {a b : List D} {Q : List D → Prop} : cellL (S ++ [Cell.lst a] ++ [Cell.lst b]) S.length Q = Q a := cellL_known (by simp)
theorem cl_b {S : Store} {a b : List D} {Q : List D → Prop} : cellL (S ++ [Cell.lst a] ++ [Cell.lst b]) (S ++ [Cell.lst a]).length Q = Q b := cellL_known (by simp)
theorem cl_n {S : Store} {a : List D} {Q : List D → Prop} : cellL (S ++ [Cell.lst a]) S.length Q = Q a := cellL_known (by simp)
theorem reassoc {S : Store} {a b c : Cell} : S ++ [a] ++ [b] ++ [c] = (S ++ [a] ++ [b]) ++ [c] := rfl
theorem h__law_limits_right (T : Tab) (g0 : T.glob "MAX_NUMBER" = some (.int 1000000)) (g1 : T.glob "MAX_CORNERS" = some (.int 12)) (g2 : T.glob "MAX_GROUP" = some (.int 48)) (g3 : T.glob "MAX_TEXT" = some (.int 6000)) (g4 : T.glob "MAX_LINES" = some (.int 200)) (g5 : T.glob "MAX_BALLS" = some (.int 8)) (g6 : T.glob "MAX_ENTRY" = some (.int 100000)) (g7 : T.glob "MAX_WORD" = some (.int 400)) (g8 : T.glob "MAX_FORM" = some (.int 100000)) (g9 : T.glob "MAX_CYCLE" = some (.int 4000)) (g10 : T.glob "MAX_FACED" = some (.int 24)) (g11 : T.glob "MAX_TURNED" = some (.int 60)) (g12 : T.glob "MAX_CELLS" = some (.int 40)) (g13 : T.glob "MAX_MIRRORS" = some (.int 12)) (g14 : T.glob "MAX_ROUNDS" = some (.int 60)) (g15 : T.glob "MAX_THINGS" = some (.int 60)) (g16 : T.glob "MAX_CLIPPED" = some (.int 24)) (g17 : T.glob "MAX_STARS" = some (.int 8)) (g18 : T.glob "MAX_LINED" = some (.int 12)) (g19 : T.glob "MAX_WHOLE" = some (.int 1000)) (g20 : T.glob "MAX_BOXED" = some (.int 4000)) (g21 : T.glob "MAX_TRIED" = some (.int 4000)) (g22 : T.glob "MAX_SIDED" = some (.int 12)) (g23 : T.glob "MAX_TILES" = some (.int 600)) (g24 : T.glob "MAX_AROUND" = some (.int 6)) (g25 : T.glob "MAX_GON" = some (.int 60)) : Meets sp_lim N__law_limits_right (t__law_limits_right T) := by
  rintro ds S E Q hl ⟨rfl, h⟩
  unfold t__law_limits_right N__law_limits_right
  rw [seq_split 2]
  generalize hr : List.drop 2 _ = tail
  simp only [List.take_succ_cons, List.take_zero]
  ((try simp only [SD.startD, List.length_cons, List.length_nil, List.map_cons, List.map_nil, List.replicate_succ, List.replicate_zero, List.cons_append, List.nil_append, Nat.reduceAdd, Nat.reduceSub, Nat.zero_add]); simp only [↓SF.Pre0, ↓SD.ev_ifE, SF.Post0, SD.dE, SD.pairs, List.length_cons, List.length_nil, List.map_cons, List.map_nil, List.set_cons_zero, List.set_cons_succ, List.replicate_succ, List.replicate_zero, List.cons_append, List.nil_append, List.zipWith_cons_cons, List.zipWith_nil_left, Nat.add_sub_cancel, Nat.reduceAdd, Nat.reduceSub, Nat.zero_add, Nat.sub_self, and_true, true_and, reduceCtorEq, if_true, if_false, ite_true, ite_false, Bool.false_eq_true, Bool.not_true, Bool.not_false, decide_eq_true_eq, ↓gl g0, ↓gl g1, ↓gl g2, ↓gl g3, ↓gl g4, ↓gl g5, ↓gl g6, ↓gl g7, ↓gl g8, ↓gl g9, ↓gl g10, ↓gl g11, ↓gl g12, ↓gl g13, ↓gl g14, ↓gl g15, ↓gl g16, ↓gl g17, ↓gl g18, ↓gl g19, ↓gl g20, ↓gl g21, ↓gl g22, ↓gl g23, ↓gl g24, ↓gl g25, h_addD SD.add_4, h_cellL cl_a, h_cellL cl_b]; try simp only [SF.Un0])
  refine ⟨line1000 (by decide), ?_⟩
  subst hr
  simp only [List.drop_succ_cons, List.drop_zero]
  rw [seq_split 1]
  generalize hr : List.drop 1 _ = tail
  simp only [List.take_succ_cons, List.take_zero]
  generalize hq : (S ++ [_] ++ [_] : Store) = S2
  have hS : ∃ g, S2 = S ++ g := ⟨_, by rw [← hq, List.append_assoc]⟩
  clear hq
  ((try simp only [SD.startD, List.length_cons, List.length_nil, List.map_cons, List.map_nil, List.replicate_succ, List.replicate_zero, List.cons_append, List.nil_append, Nat.reduceAdd, Nat.reduceSub, Nat.zero_add]); simp only [↓SF.Pre0, ↓SD.ev_ifE, SF.Post0, SD.dE, SD.pairs, List.length_cons, List.length_nil, List.map_cons, List.map_nil, List.set_cons_zero, List.set_cons_succ, List.replicate_succ, List.replicate_zero, List.cons_append, List.nil_append, List.zipWith_cons_cons, List.zipWith_nil_left, Nat.add_sub_cancel, Nat.reduceAdd, Nat.reduceSub, Nat.zero_add, Nat.sub_self, and_true, true_and, reduceCtorEq, if_true, if_false, ite_true, ite_false, Bool.false_eq_true, Bool.not_true, Bool.not_false, decide_eq_true_eq, ↓gl g0, ↓gl g1, ↓gl g2, ↓gl g3, ↓gl g4, ↓gl g5, ↓gl g6, ↓gl g7, ↓gl g8, ↓gl g9, ↓gl g10, ↓gl g11, ↓gl g12, ↓gl g13, ↓gl g14, ↓gl g15, ↓gl g16, ↓gl g17, ↓gl g18, ↓gl g19, ↓gl g20, ↓gl g21, ↓gl g22, ↓gl g23, ↓gl g24, ↓gl g25, h_addD SD.add_4, h_cellL cl_a, h_cellL cl_b]; try simp only [SF.Un0])
  refine ⟨line1000 (by decide), ?_⟩
  subst hr
  simp only [List.drop_succ_cons, List.drop_zero]
  rw [seq_split 1]
  generalize hr : List.drop 1 _ = tail
  simp only [List.take_succ_cons, List.take_zero]
  obtain ⟨S3, hq⟩ : ∃ S3, S2 ++ [Cell.lst [D.int 1000000, D.int 12, D.int 48, D.int 6000, D.int 200, D.int 8, D.int 100000, D.int 400, D.int 100000, D.int 4000, D.int 24, D.int 60, D.int 40, D.int 12, D.int 60, D.int 60, D.int 24, D.int 8]] ++
          [Cell.lst [D.int 12, D.int 1000, D.int 4000, D.int 4000, D.int 12, D.int 600, D.int 6, D.int 60]] = S3 := ⟨_, rfl⟩
  have hS3 : ∃ g, S3 = S ++ g := by
    obtain ⟨g, rfl⟩ := hS
    exact ⟨_, by rw [← hq, List.append_assoc, List.append_assoc]⟩
  rw [hq]
  clear hq hS
  ((try simp only [SD.startD, List.length_cons, List.length_nil, List.map_cons, List.map_nil, List.replicate_succ, List.replicate_zero, List.cons_append, List.nil_append, Nat.reduceAdd, Nat.reduceSub, Nat.zero_add]); simp only [↓SF.Pre0, ↓SD.ev_ifE, SF.Post0, SD.dE, SD.pairs, List.length_cons, List.length_nil, List.map_cons, List.map_nil, List.set_cons_zero, List.set_cons_succ, List.replicate_succ, List.replicate_zero, List.cons_append, List.nil_append, List.zipWith_cons_cons, List.zipWith_nil_left, Nat.add_sub_cancel, Nat.reduceAdd, Nat.reduceSub, Nat.zero_add, Nat.sub_self, and_true, true_and, reduceCtorEq, if_true, if_false, ite_true, ite_false, Bool.false_eq_true, Bool.not_true, Bool.not_false, decide_eq_true_eq]; try simp only [SF.Un0])
  subst hr
  simp only [List.drop_succ_cons, List.drop_zero]
  have hr1 := fun {x : Cell} {y z : List D} {Q : QV} => repr_lst (S := S3 ++ [Cell.lst lims] ++ [x] ++ [Cell.lst y] ++ [Cell.lst z]) (k := S3.length) (xs := lims) (Q := Q) (by simp)
  have hr2 := fun {x : Cell} {y : List D} {Q : QV} => repr_lst (S := S3 ++ [Cell.lst lims] ++ [x] ++ [Cell.lst y] ++ [Cell.lst lims]) (k := (S3 ++ [Cell.lst lims] ++ [x] ++ [Cell.lst y]).length) (xs := lims) (Q := Q) (by simp)
  have lf : [D.int 1000000, D.int 12, D.int 48, D.int 6000, D.int 200, D.int 8, D.int 100000, D.int 400, D.int 100000, D.int 4000, D.int 24, D.int 60, D.int 40, D.int 12, D.int 60, D.int 60, D.int 24, D.int 8, D.int 12, D.int 1000, D.int 4000, D.int 4000, D.int 12, D.int 600, D.int 6, D.int 60] = lims := rfl
  simp only [lf]
  ((try simp only [SD.startD, List.length_cons, List.length_nil, List.map_cons, List.map_nil, List.replicate_succ, List.replicate_zero, List.cons_append, List.nil_append, Nat.reduceAdd, Nat.reduceSub, Nat.zero_add]); simp only [↓SF.Pre0, ↓SD.ev_ifE, SF.Post0, SD.dE, SD.pairs, List.length_cons, List.length_nil, List.map_cons, List.map_nil, List.set_cons_zero, List.set_cons_succ, List.replicate_succ, List.replicate_zero, List.cons_append, List.nil_append, List.zipWith_cons_cons, List.zipWith_nil_left, Nat.add_sub_cancel, Nat.reduceAdd, Nat.reduceSub, Nat.zero_add, Nat.sub_self, and_true, true_and, reduceCtorEq, if_true, if_false, ite_true, ite_false, Bool.false_eq_true, Bool.not_true, Bool.not_false, decide_eq_true_eq, h_addD SD.add_4, h_cellL cl_a, h_cellL cl_b]; try simp only [SF.Un0])
  refine ⟨line1000 (by decide), ?_⟩
  simp only [lf]
  rw [hr1]
  refine ⟨⟨lims_ok, lims_sh⟩, ?_⟩
  ((try simp only [SD.startD, List.length_cons, List.length_nil, List.map_cons, List.map_nil, List.replicate_succ, List.replicate_zero, List.cons_append, List.nil_append, Nat.reduceAdd, Nat.reduceSub, Nat.zero_add]); simp only [↓SF.Pre0, ↓SD.ev_ifE, SF.Post0, SD.dE, SD.pairs, List.length_cons, List.length_nil, List.map_cons, List.map_nil, List.set_cons_zero, List.set_cons_succ, List.replicate_succ, List.replicate_zero, List.cons_append, List.nil_append, List.zipWith_cons_cons, List.zipWith_nil_left, Nat.add_sub_cancel, Nat.reduceAdd, Nat.reduceSub, Nat.zero_add, Nat.sub_self, and_true, true_and, reduceCtorEq, if_true, if_false, ite_true, ite_false, Bool.false_eq_true, Bool.not_true, Bool.not_false, decide_eq_true_eq]; try simp only [SF.Un0])
  rw [hr2]
  refine ⟨⟨lims_ok, lims_sh⟩, ?_⟩
  ((try simp only [SD.startD, List.length_cons, List.length_nil, List.map_cons, List.map_nil, List.replicate_succ, List.replicate_zero, List.cons_append, List.nil_append, Nat.reduceAdd, Nat.reduceSub, Nat.zero_add]); simp only [↓SF.Pre0, ↓SD.ev_ifE, SF.Post0, SD.dE, SD.pairs, List.length_cons, List.length_nil, List.map_cons, List.map_nil, List.set_cons_zero, List.set_cons_succ, List.replicate_succ, List.replicate_zero, List.cons_append, List.nil_append, List.zipWith_cons_cons, List.zipWith_nil_left, Nat.add_sub_cancel, Nat.reduceAdd, Nat.reduceSub, Nat.zero_add, Nat.sub_self, and_true, true_and, reduceCtorEq, if_true, if_false, ite_true, ite_false, Bool.false_eq_true, Bool.not_true, Bool.not_false, decide_eq_true_eq]; try simp only [SF.Un0])
  rw [eqk_str, decide_eq_true rfl]
  obtain ⟨g, rfl⟩ := hS3
  simp only [List.append_assoc]
  exact trQ_app rfl h
end K00

-- T0b
set_option Elab.async false
set_option linter.all false
set_option maxRecDepth 100000
set_option maxHeartbeats 4000000
namespace K00
open PySem L2 SD SL SP
/-- the error number k -/
def errK (k : Int) (one other : D) : Exn := if k = 0 then ⟨"ArgumentError", [("reason", one)]⟩ else if k = 1 then ⟨"PaperError", [("reason", one)]⟩ else if k = 2 then ⟨"TooMany", [("reason", one)]⟩ else if k = 3 then ⟨"CheckError", [("reason", one)]⟩ else if k = 4 then ⟨"TextError", [("at", one)]⟩ else if k = 5 then ⟨"LogError", [("number", one), ("reason", other)]⟩ else ⟨"CommandError", [("line", one)]⟩
structure Ko (k : Int) (one other : D) : Prop where
  lo : 0 ≤ k
  hi : k < 7
  c1 : ∀ n, clD n one = true
  c2 : ∀ n, clD n other = true
theorem Ko.cases {k : Int} {a b : D} (h : Ko k a b) : k = 0 ∨ k = 1 ∨ k = 2 ∨ k = 3 ∨ k = 4 ∨ k = 5 ∨ k = 6 := by
  have := h.lo
  have := h.hi
  omega
def sp_raise : FnD := ⟨3, fun ds S E _ => ∃ k one other, ds = [.int k, one, other] ∧ Ko k one other ∧ E (errK k one other) S⟩
theorem raise_eq {k : Int} {a b : D} {S : Store} {E : QX} {Q : QV} : sp_raise.sp [.int k, a, b] S E Q = (Ko k a b ∧ E (errK k a b) S) := by
  refine propext ⟨fun ⟨k', a', b', e, h⟩ => ?_, fun h => ⟨k, a, b, rfl, h⟩⟩
  cases e
  exact h
theorem raise_n : sp_raise.n = 3 := rfl
theorem cl2 {n : Nat} {a b : D} {x y : Str} (h1 : clD n a = true) (h2 : clD n b = true) : clF n [(x, a), (y, b)] = true := by
  show (clD n a && (clD n b && true)) = true
  rw [h1, h2]; rfl
theorem cl1 {n : Nat} {a : D} {x : Str} (h1 : clD n a = true) : clF n [(x, a)] = true := by
  show (clD n a && true) = true
  rw [h1]; rfl
theorem h__law_raise (T : Tab) (x0 : T.exc "ArgumentError" = some [("reason" : Str)]) (x1 : T.exc "PaperError" = some [("reason" : Str)]) (x2 : T.exc "TooMany" = some [("reason" : Str)]) (x3 : T.exc "CheckError" = some [("reason" : Str)]) (x4 : T.exc "TextError" = some [("at" : Str)]) (x5 : T.exc "LogError" = some [("number" : Str), ("reason" : Str)]) (x6 : T.exc "CommandError" = some [("line" : Str)]) : Meets sp_raise N__law_raise (t__law_raise T) := by
  rintro ds S E Q hl ⟨k, one, other, rfl, ko, h⟩
  unfold t__law_raise N__law_raise
  rcases ko.cases with rfl | rfl | rfl | rfl | rfl | rfl | rfl
  · ((try simp only [SD.startD, List.length_cons, List.length_nil, List.map_cons, List.map_nil, List.replicate_succ, List.replicate_zero, List.cons_append, List.nil_append, Nat.reduceAdd, Nat.reduceSub, Nat.zero_add]); simp only [↓SF.Pre0, ↓SD.ev_ifE, SF.Post0, SD.dE, SD.pairs, List.length_cons, List.length_nil, List.map_cons, List.map_nil, List.set_cons_zero, List.set_cons_succ, List.replicate_succ, List.replicate_zero, List.cons_append, List.nil_append, List.zipWith_cons_cons, List.zipWith_nil_left, Nat.add_sub_cancel, Nat.reduceAdd, Nat.reduceSub, Nat.zero_add, Nat.sub_self, and_true, true_and, reduceCtorEq, if_true, if_false, ite_true, ite_false, Bool.false_eq_true, Bool.not_true, Bool.not_false, decide_eq_true_eq, x0, Int.reduceEq, decide_true, decide_false]; try simp only [SF.Un0])
    exact trE_self (cl1 (ko.c1 _)) h
  · ((try simp only [SD.startD, List.length_cons, List.length_nil, List.map_cons, List.map_nil, List.replicate_succ, List.replicate_zero, List.cons_append, List.nil_append, Nat.reduceAdd, Nat.reduceSub, Nat.zero_add]); simp only [↓SF.Pre0, ↓SD.ev_ifE, SF.Post0, SD.dE, SD.pairs, List.length_cons, List.length_nil, List.map_cons, List.map_nil, List.set_cons_zero, List.set_cons_succ, List.replicate_succ, List.replicate_zero, List.cons_append, List.nil_append, List.zipWith_cons_cons, List.zipWith_nil_left, Nat.add_sub_cancel, Nat.reduceAdd, Nat.reduceSub, Nat.zero_add, Nat.sub_self, and_true, true_and, reduceCtorEq, if_true, if_false, ite_true, ite_false, Bool.false_eq_true, Bool.not_true, Bool.not_false, decide_eq_true_eq, x1, Int.reduceEq, decide_true, decide_false]; try simp only [SF.Un0])
    exact trE_self (cl1 (ko.c1 _)) h
  · ((try simp only [SD.startD, List.length_cons, List.length_nil, List.map_cons, List.map_nil, List.replicate_succ, List.replicate_zero, List.cons_append, List.nil_append, Nat.reduceAdd, Nat.reduceSub, Nat.zero_add]); simp only [↓SF.Pre0, ↓SD.ev_ifE, SF.Post0, SD.dE, SD.pairs, List.length_cons, List.length_nil, List.map_cons, List.map_nil, List.set_cons_zero, List.set_cons_succ, List.replicate_succ, List.replicate_zero, List.cons_append, List.nil_append, List.zipWith_cons_cons, List.zipWith_nil_left, Nat.add_sub_cancel, Nat.reduceAdd, Nat.reduceSub, Nat.zero_add, Nat.sub_self, and_true, true_and, reduceCtorEq, if_true, if_false, ite_true, ite_false, Bool.false_eq_true, Bool.not_true, Bool.not_false, decide_eq_true_eq, x2, Int.reduceEq, decide_true, decide_false]; try simp only [SF.Un0])
    exact trE_self (cl1 (ko.c1 _)) h
  · ((try simp only [SD.startD, List.length_cons, List.length_nil, List.map_cons, List.map_nil, List.replicate_succ, List.replicate_zero, List.cons_append, List.nil_append, Nat.reduceAdd, Nat.reduceSub, Nat.zero_add]); simp only [↓SF.Pre0, ↓SD.ev_ifE, SF.Post0, SD.dE, SD.pairs, List.length_cons, List.length_nil, List.map_cons, List.map_nil, List.set_cons_zero, List.set_cons_succ, List.replicate_succ, List.replicate_zero, List.cons_append, List.nil_append, List.zipWith_cons_cons, List.zipWith_nil_left, Nat.add_sub_cancel, Nat.reduceAdd, Nat.reduceSub, Nat.zero_add, Nat.sub_self, and_true, true_and, reduceCtorEq, if_true, if_false, ite_true, ite_false, Bool.false_eq_true, Bool.not_true, Bool.not_false, decide_eq_true_eq, x3, Int.reduceEq, decide_true, decide_false]; try simp only [SF.Un0])
    exact trE_self (cl1 (ko.c1 _)) h
  · ((try simp only [SD.startD, List.length_cons, List.length_nil, List.map_cons, List.map_nil, List.replicate_succ, List.replicate_zero, List.cons_append, List.nil_append, Nat.reduceAdd, Nat.reduceSub, Nat.zero_add]); simp only [↓SF.Pre0, ↓SD.ev_ifE, SF.Post0, SD.dE, SD.pairs, List.length_cons, List.length_nil, List.map_cons, List.map_nil, List.set_cons_zero, List.set_cons_succ, List.replicate_succ, List.replicate_zero, List.cons_append, List.nil_append, List.zipWith_cons_cons, List.zipWith_nil_left, Nat.add_sub_cancel, Nat.reduceAdd, Nat.reduceSub, Nat.zero_add, Nat.sub_self, and_true, true_and, reduceCtorEq, if_true, if_false, ite_true, ite_false, Bool.false_eq_true, Bool.not_true, Bool.not_false, decide_eq_true_eq, x4, Int.reduceEq, decide_true, decide_false]; try simp only [SF.Un0])
    exact trE_self (cl1 (ko.c1 _)) h
  · ((try simp only [SD.startD, List.length_cons, List.length_nil, List.map_cons, List.map_nil, List.replicate_succ, List.replicate_zero, List.cons_append, List.nil_append, Nat.reduceAdd, Nat.reduceSub, Nat.zero_add]); simp only [↓SF.Pre0, ↓SD.ev_ifE, SF.Post0, SD.dE, SD.pairs, List.length_cons, List.length_nil, List.map_cons, List.map_nil, List.set_cons_zero, List.set_cons_succ, List.replicate_succ, List.replicate_zero, List.cons_append, List.nil_append, List.zipWith_cons_cons, List.zipWith_nil_left, Nat.add_sub_cancel, Nat.reduceAdd, Nat.reduceSub, Nat.zero_add, Nat.sub_self, and_true, true_and, reduceCtorEq, if_true, if_false, ite_true, ite_false, Bool.false_eq_true, Bool.not_true, Bool.not_false, decide_eq_true_eq, x5, Int.reduceEq, decide_true, decide_false]; try simp only [SF.Un0])
    exact trE_self (cl2 (ko.c1 _) (ko.c2 _)) h
  · ((try simp only [SD.startD, List.length_cons, List.length_nil, List.map_cons, List.map_nil, List.replicate_succ, List.replicate_zero, List.cons_append, List.nil_append, Nat.reduceAdd, Nat.reduceSub, Nat.zero_add]); simp only [↓SF.Pre0, ↓SD.ev_ifE, SF.Post0, SD.dE, SD.pairs, List.length_cons, List.length_nil, List.map_cons, List.map_nil, List.set_cons_zero, List.set_cons_succ, List.replicate_succ, List.replicate_zero, List.cons_append, List.nil_append, List.zipWith_cons_cons, List.zipWith_nil_left, Nat.add_sub_cancel, Nat.reduceAdd, Nat.reduceSub, Nat.zero_add, Nat.sub_self, and_true, true_and, reduceCtorEq, if_true, if_false, ite_true, ite_false, Bool.false_eq_true, Bool.not_true, Bool.not_false, decide_eq_true_eq, x6, Int.reduceEq, decide_true, decide_false]; try simp only [SF.Un0])
    exact trE_self (cl1 (ko.c1 _)) h
def kindsL (k : Int) : List D := [.bl (decide ((0 : Int) = k)), .bl (decide ((1 : Int) = k)), .bl (decide ((2 : Int) = k)), .bl (decide ((3 : Int) = k)), .bl (decide ((4 : Int) = k)), .bl (decide ((5 : Int) = k)), .bl (decide ((6 : Int) = k))]
def sp_caught : FnD := ⟨3, fun ds S _ Q => ∃ k one other, ds = [.int k, one, other] ∧ Ko k one other ∧ ∀ a b, Q (.lref (S.length + 2)) (S ++ [.lst a, .lst b, .lst (kindsL k)])⟩
theorem caught_eq {k : Int} {a b : D} {S : Store} {E : QX} {Q : QV} : sp_caught.sp [.int k, a, b] S E Q = (Ko k a b ∧ ∀ x y, Q (.lref (S.length + 2)) (S ++ [.lst x, .lst y, .lst (kindsL k)])) := by
  refine propext ⟨fun ⟨k', a', b', e, h⟩ => ?_, fun h => ⟨k, a, b, rfl, h⟩⟩
  cases e
  exact h
theorem caught_n : sp_caught.n = 3 := rfl
theorem clBs {n : Nat} : ∀ l : List Bool, clDs n (l.map D.bl) = true
  | [] => rfl
  | x :: l => by
    rw [List.map_cons]
    show (clD n (.bl x) && clDs n (l.map D.bl)) = true
    rw [clBs l]
    rfl
theorem noBs : ∀ l : List Bool, noExs (l.map D.bl) = true
  | [] => rfl
  | x :: l => by
    rw [List.map_cons]
    show (noEx (.bl x) && noExs (l.map D.bl)) = true
    rw [noBs l]
    rfl
theorem ret3 {S : Store} {Q : QV} {a b c : List Bool} {l : List D} (hl : l = c.map D.bl) (h : Q (.lref (S.length + 2)) (S ++ [.lst (a.map D.bl), .lst (b.map D.bl), .lst l])) :
    (newS S (S ++ [.lst (a.map D.bl), .lst (b.map D.bl), .lst l]) ∧ noEx (.lref (S.length + 2)) = true) ∧ trQ S Q (.lref (S.length + 2)) (S ++ [.lst (a.map D.bl), .lst (b.map D.bl), .lst l]) := by
  subst hl
  refine ⟨⟨.inr ⟨_, rfl, fun ds m => ?_⟩, rfl⟩, _, ⟨by simp, ⟨[], by simp⟩, fun j x hx => ?_⟩, by simp [clD], h⟩
  · simp only [List.mem_cons, List.not_mem_nil, or_false] at m
    rcases m with m | m | m <;> (cases m; exact noBs _)
  · by_cases hjl : j < S.length
    · rw [List.getElem?_append_left hjl] at hx
      exact .inl hx
    · rw [List.getElem?_append_right (by omega)] at hx
      have m := List.mem_of_getElem? hx
      right
      simp only [List.mem_cons, List.not_mem_nil, or_false] at m
      rcases m with rfl | rfl | rfl <;> exact clBs _
/-- the suite of the caught error -/
theorem suite_ok {T : Tab} {c : Str} {fs : List (Str × D)} {env : SD.Env} {S : Store} {k : Int} {Q : QV} {a b : List Bool} (kn : T.kin "_law_kinds" = some ((["ArgumentError", "PaperError", "TooMany", "CheckError"] : List Str), (["TextError", "LogError", "CommandError"] : List Str))) (hj : env[3]? = some (some (.exc c fs))) (hv : T.isa c "ValueError" = true)
    (ha : [T.isa c "ArgumentError", T.isa c "PaperError", T.isa c "TooMany", T.isa c "CheckError"] = a) (hb : [T.isa c "TextError", T.isa c "LogError", T.isa c "CommandError"] = b) (hk : kindsL k = (a ++ b).map D.bl) (h : ∀ x y, Q (.lref (S.length + 2)) (S ++ [.lst x, .lst y, .lst (kindsL k)])) :
    eIf (tE (eInst T 3 "ValueError")) (eKin T "_law_kinds" 3) (eLst []) env S noX fun d S1 => (newS S S1 ∧ noEx d = true) ∧ trQ S Q d S1 := by
  subst ha hb
  have e1 : ∀ {Q : QV}, eInst T 3 "ValueError" env S noX Q = Q (.bl true) S := fun {Q} => by
    unfold eInst look
    rw [hj]
    dsimp only
    rw [hv]
  have e2 : ∀ {Q : QV}, eKin T "_law_kinds" 3 env S noX Q = Q (.lref (S.length + 2)) (S ++ [.lst ([T.isa c "ArgumentError", T.isa c "PaperError", T.isa c "TooMany", T.isa c "CheckError"].map D.bl), .lst ([T.isa c "TextError", T.isa c "LogError", T.isa c "CommandError"].map D.bl), .lst (kindsL k)]) := fun {Q} => by
    unfold eKin look
    rw [hj, kn, hk]
    rfl
  show (eInst T 3 "ValueError" env S noX fun d S1 => truthD d S1 fun b => if b = true then eKin T "_law_kinds" 3 env S1 noX (fun d S1 => (newS S S1 ∧ noEx d = true) ∧ trQ S Q d S1) else eLst [] env S1 noX (fun d S1 => (newS S S1 ∧ noEx d = true) ∧ trQ S Q d S1))
  rw [e1]
  rw [SD.tr_bl]
  rw [if_pos rfl, e2]
  exact ret3 hk (h _ _)
theorem h__law_caught (T : Tab) (h1 : T.sp "_law_raise" = some sp_raise) (x0 : T.exc "ArgumentError" = some [("reason" : Str)]) (x1 : T.exc "PaperError" = some [("reason" : Str)]) (x2 : T.exc "TooMany" = some [("reason" : Str)]) (x3 : T.exc "CheckError" = some [("reason" : Str)]) (x4 : T.exc "TextError" = some [("at" : Str)]) (x5 : T.exc "LogError" = some [("number" : Str), ("reason" : Str)]) (x6 : T.exc "CommandError" = some [("line" : Str)]) (i0 : [T.isa "ArgumentError" "ArgumentError", T.isa "ArgumentError" "PaperError", T.isa "ArgumentError" "TooMany", T.isa "ArgumentError" "CheckError", T.isa "ArgumentError" "TextError", T.isa "ArgumentError" "LogError", T.isa "ArgumentError" "CommandError"] = [true, false, false, false, false, false, false]) (i1 : [T.isa "PaperError" "ArgumentError", T.isa "PaperError" "PaperError", T.isa "PaperError" "TooMany", T.isa "PaperError" "CheckError", T.isa "PaperError" "TextError", T.isa "PaperError" "LogError", T.isa "PaperError" "CommandError"] = [false, true, false, false, false, false, false]) (i2 : [T.isa "TooMany" "ArgumentError", T.isa "TooMany" "PaperError", T.isa "TooMany" "TooMany", T.isa "TooMany" "CheckError", T.isa "TooMany" "TextError", T.isa "TooMany" "LogError", T.isa "TooMany" "CommandError"] = [false, false, true, false, false, false, false]) (i3 : [T.isa "CheckError" "ArgumentError", T.isa "CheckError" "PaperError", T.isa "CheckError" "TooMany", T.isa "CheckError" "CheckError", T.isa "CheckError" "TextError", T.isa "CheckError" "LogError", T.isa "CheckError" "CommandError"] = [false, false, false, true, false, false, false]) (i4 : [T.isa "TextError" "ArgumentError", T.isa "TextError" "PaperError", T.isa "TextError" "TooMany", T.isa "TextError" "CheckError", T.isa "TextError" "TextError", T.isa "TextError" "LogError", T.isa "TextError" "CommandError"] = [false, false, false, false, true, false, false]) (i5 : [T.isa "LogError" "ArgumentError", T.isa "LogError" "PaperError", T.isa "LogError" "TooMany", T.isa "LogError" "CheckError", T.isa "LogError" "TextError", T.isa "LogError" "LogError", T.isa "LogError" "CommandError"] = [false, false, false, false, false, true, false]) (i6 : [T.isa "CommandError" "ArgumentError", T.isa "CommandError" "PaperError", T.isa "CommandError" "TooMany", T.isa "CommandError" "CheckError", T.isa "CommandError" "TextError", T.isa "CommandError" "LogError", T.isa "CommandError" "CommandError"] = [false, false, false, false, false, false, true]) (s0 : T.isa "ArgumentError" "SpaceError" = true) (v0 : T.isa "ArgumentError" "ValueError" = true) (s1 : T.isa "PaperError" "SpaceError" = true) (v1 : T.isa "PaperError" "ValueError" = true) (s2 : T.isa "TooMany" "SpaceError" = true) (v2 : T.isa "TooMany" "ValueError" = true) (s3 : T.isa "CheckError" "SpaceError" = true) (v3 : T.isa "CheckError" "ValueError" = true) (s4 : T.isa "TextError" "SpaceError" = true) (v4 : T.isa "TextError" "ValueError" = true) (s5 : T.isa "LogError" "SpaceError" = true) (v5 : T.isa "LogError" "ValueError" = true) (s6 : T.isa "CommandError" "SpaceError" = true) (v6 : T.isa "CommandError" "ValueError" = true) (kn : T.kin "_law_kinds" = some ((["ArgumentError", "PaperError", "TooMany", "CheckError"] : List Str), (["TextError", "LogError", "CommandError"] : List Str))) : Meets sp_caught N__law_caught (t__law_caught T) := by
  rintro ds S E Q hl ⟨k, one, other, rfl, ko, h⟩
  unfold t__law_caught N__law_caught
  ((try simp only [SD.startD, List.length_cons, List.length_nil, List.map_cons, List.map_nil, List.replicate_succ, List.replicate_zero, List.cons_append, List.nil_append, Nat.reduceAdd, Nat.reduceSub, Nat.zero_add]); simp only [↓SF.Pre0, ↓SD.ev_ifE, SF.Post0, SD.dE, SD.pairs, List.length_cons, List.length_nil, List.map_cons, List.map_nil, List.set_cons_zero, List.set_cons_succ, List.replicate_succ, List.replicate_zero, List.cons_append, List.nil_append, List.zipWith_cons_cons, List.zipWith_nil_left, Nat.add_sub_cancel, Nat.reduceAdd, Nat.reduceSub, Nat.zero_add, Nat.sub_self, and_true, true_and, reduceCtorEq, if_true, if_false, ite_true, ite_false, Bool.false_eq_true, Bool.not_true, Bool.not_false, decide_eq_true_eq, ↓cl h1, raise_n, h_sp raise_eq]; try simp only [SF.Un0])
  refine ⟨ko, ?_⟩
  simp only [List.cons.injEq, and_true] at i0 i1 i2 i3 i4 i5 i6
  rcases ko.cases with rfl | rfl | rfl | rfl | rfl | rfl | rfl
  · refine ⟨x0, ?_⟩
    rw [if_pos (show T.isa (errK 0 one other).cls "SpaceError" = true from s0)]
    obtain ⟨j0, j1, j2, j3, j4, j5, j6⟩ := i0
    exact suite_ok (k := 0) (a := [true, false, false, false]) (b := [false, false, false]) kn rfl v0 (by show [T.isa "ArgumentError" "ArgumentError", T.isa "ArgumentError" "PaperError", T.isa "ArgumentError" "TooMany", T.isa "ArgumentError" "CheckError"] = _; rw [j0, j1, j2, j3]) (by show [T.isa "ArgumentError" "TextError", T.isa "ArgumentError" "LogError", T.isa "ArgumentError" "CommandError"] = _; rw [j4, j5, j6]) rfl h
  · refine ⟨x1, ?_⟩
    rw [if_pos (show T.isa (errK 1 one other).cls "SpaceError" = true from s1)]
    obtain ⟨j0, j1, j2, j3, j4, j5, j6⟩ := i1
    exact suite_ok (k := 1) (a := [false, true, false, false]) (b := [false, false, false]) kn rfl v1 (by show [T.isa "PaperError" "ArgumentError", T.isa "PaperError" "PaperError", T.isa "PaperError" "TooMany", T.isa "PaperError" "CheckError"] = _; rw [j0, j1, j2, j3]) (by show [T.isa "PaperError" "TextError", T.isa "PaperError" "LogError", T.isa "PaperError" "CommandError"] = _; rw [j4, j5, j6]) rfl h
  · refine ⟨x2, ?_⟩
    rw [if_pos (show T.isa (errK 2 one other).cls "SpaceError" = true from s2)]
    obtain ⟨j0, j1, j2, j3, j4, j5, j6⟩ := i2
    exact suite_ok (k := 2) (a := [false, false, true, false]) (b := [false, false, false]) kn rfl v2 (by show [T.isa "TooMany" "ArgumentError", T.isa "TooMany" "PaperError", T.isa "TooMany" "TooMany", T.isa "TooMany" "CheckError"] = _; rw [j0, j1, j2, j3]) (by show [T.isa "TooMany" "TextError", T.isa "TooMany" "LogError", T.isa "TooMany" "CommandError"] = _; rw [j4, j5, j6]) rfl h
  · refine ⟨x3, ?_⟩
    rw [if_pos (show T.isa (errK 3 one other).cls "SpaceError" = true from s3)]
    obtain ⟨j0, j1, j2, j3, j4, j5, j6⟩ := i3
    exact suite_ok (k := 3) (a := [false, false, false, true]) (b := [false, false, false]) kn rfl v3 (by show [T.isa "CheckError" "ArgumentError", T.isa "CheckError" "PaperError", T.isa "CheckError" "TooMany", T.isa "CheckError" "CheckError"] = _; rw [j0, j1, j2, j3]) (by show [T.isa "CheckError" "TextError", T.isa "CheckError" "LogError", T.isa "CheckError" "CommandError"] = _; rw [j4, j5, j6]) rfl h
  · refine ⟨x4, ?_⟩
    rw [if_pos (show T.isa (errK 4 one other).cls "SpaceError" = true from s4)]
    obtain ⟨j0, j1, j2, j3, j4, j5, j6⟩ := i4
    exact suite_ok (k := 4) (a := [false, false, false, false]) (b := [true, false, false]) kn rfl v4 (by show [T.isa "TextError" "ArgumentError", T.isa "TextError" "PaperError", T.isa "TextError" "TooMany", T.isa "TextError" "CheckError"] = _; rw [j0, j1, j2, j3]) (by show [T.isa "TextError" "TextError", T.isa "TextError" "LogError", T.isa "TextError" "CommandError"] = _; rw [j4, j5, j6]) rfl h
  · refine ⟨x5, ?_⟩
    rw [if_pos (show T.isa (errK 5 one other).cls "SpaceError" = true from s5)]
    obtain ⟨j0, j1, j2, j3, j4, j5, j6⟩ := i5
    exact suite_ok (k := 5) (a := [false, false, false, false]) (b := [false, true, false]) kn rfl v5 (by show [T.isa "LogError" "ArgumentError", T.isa "LogError" "PaperError", T.isa "LogError" "TooMany", T.isa "LogError" "CheckError"] = _; rw [j0, j1, j2, j3]) (by show [T.isa "LogError" "TextError", T.isa "LogError" "LogError", T.isa "LogError" "CommandError"] = _; rw [j4, j5, j6]) rfl h
  · refine ⟨x6, ?_⟩
    rw [if_pos (show T.isa (errK 6 one other).cls "SpaceError" = true from s6)]
    obtain ⟨j0, j1, j2, j3, j4, j5, j6⟩ := i6
    exact suite_ok (k := 6) (a := [false, false, false, false]) (b := [false, false, true]) kn rfl v6 (by show [T.isa "CommandError" "ArgumentError", T.isa "CommandError" "PaperError", T.isa "CommandError" "TooMany", T.isa "CommandError" "CheckError"] = _; rw [j0, j1, j2, j3]) (by show [T.isa "CommandError" "TextError", T.isa "CommandError" "LogError", T.isa "CommandError" "CommandError"] = _; rw [j4, j5, j6]) rfl h
def fldK (k : Int) (one other : D) : D := if k = 5 then .tup [one, other] else .tup [one]
def sp_fields : FnD := ⟨3, fun ds S _ Q => ∃ k one other, ds = [.int k, one, other] ∧ (Ko k one other ∧ noEx one = true ∧ noEx other = true) ∧ Q (fldK k one other) S⟩
theorem fields_eq {k : Int} {a b : D} {S : Store} {E : QX} {Q : QV} : sp_fields.sp [.int k, a, b] S E Q = ((Ko k a b ∧ noEx a = true ∧ noEx b = true) ∧ Q (fldK k a b) S) := by
  refine propext ⟨fun ⟨k', a', b', e, h⟩ => ?_, fun h => ⟨k, a, b, rfl, h⟩⟩
  cases e
  exact h
theorem fields_n : sp_fields.n = 3 := rfl
theorem h__law_fields (T : Tab) (h1 : T.sp "_law_raise" = some sp_raise) (x0 : T.exc "ArgumentError" = some [("reason" : Str)]) (x1 : T.exc "PaperError" = some [("reason" : Str)]) (x2 : T.exc "TooMany" = some [("reason" : Str)]) (x3 : T.exc "CheckError" = some [("reason" : Str)]) (x4 : T.exc "TextError" = some [("at" : Str)]) (x5 : T.exc "LogError" = some [("number" : Str), ("reason" : Str)]) (x6 : T.exc "CommandError" = some [("line" : Str)]) (i0 : [T.isa "ArgumentError" "ArgumentError", T.isa "ArgumentError" "PaperError", T.isa "ArgumentError" "TooMany", T.isa "ArgumentError" "CheckError", T.isa "ArgumentError" "TextError", T.isa "ArgumentError" "LogError", T.isa "ArgumentError" "CommandError"] = [true, false, false, false, false, false, false]) (i1 : [T.isa "PaperError" "ArgumentError", T.isa "PaperError" "PaperError", T.isa "PaperError" "TooMany", T.isa "PaperError" "CheckError", T.isa "PaperError" "TextError", T.isa "PaperError" "LogError", T.isa "PaperError" "CommandError"] = [false, true, false, false, false, false, false]) (i2 : [T.isa "TooMany" "ArgumentError", T.isa "TooMany" "PaperError", T.isa "TooMany" "TooMany", T.isa "TooMany" "CheckError", T.isa "TooMany" "TextError", T.isa "TooMany" "LogError", T.isa "TooMany" "CommandError"] = [false, false, true, false, false, false, false]) (i3 : [T.isa "CheckError" "ArgumentError", T.isa "CheckError" "PaperError", T.isa "CheckError" "TooMany", T.isa "CheckError" "CheckError", T.isa "CheckError" "TextError", T.isa "CheckError" "LogError", T.isa "CheckError" "CommandError"] = [false, false, false, true, false, false, false]) (i4 : [T.isa "TextError" "ArgumentError", T.isa "TextError" "PaperError", T.isa "TextError" "TooMany", T.isa "TextError" "CheckError", T.isa "TextError" "TextError", T.isa "TextError" "LogError", T.isa "TextError" "CommandError"] = [false, false, false, false, true, false, false]) (i5 : [T.isa "LogError" "ArgumentError", T.isa "LogError" "PaperError", T.isa "LogError" "TooMany", T.isa "LogError" "CheckError", T.isa "LogError" "TextError", T.isa "LogError" "LogError", T.isa "LogError" "CommandError"] = [false, false, false, false, false, true, false]) (i6 : [T.isa "CommandError" "ArgumentError", T.isa "CommandError" "PaperError", T.isa "CommandError" "TooMany", T.isa "CommandError" "CheckError", T.isa "CommandError" "TextError", T.isa "CommandError" "LogError", T.isa "CommandError" "CommandError"] = [false, false, false, false, false, false, true]) : Meets sp_fields N__law_fields (t__law_fields T) := by
  rintro ds S E Q hl ⟨k, one, other, rfl, ⟨ko, n1, n2⟩, h⟩
  unfold t__law_fields N__law_fields
  ((try simp only [SD.startD, List.length_cons, List.length_nil, List.map_cons, List.map_nil, List.replicate_succ, List.replicate_zero, List.cons_append, List.nil_append, Nat.reduceAdd, Nat.reduceSub, Nat.zero_add]); simp only [↓SF.Pre0, ↓SD.ev_ifE, SF.Post0, SD.dE, SD.pairs, List.length_cons, List.length_nil, List.map_cons, List.map_nil, List.set_cons_zero, List.set_cons_succ, List.replicate_succ, List.replicate_zero, List.cons_append, List.nil_append, List.zipWith_cons_cons, List.zipWith_nil_left, Nat.add_sub_cancel, Nat.reduceAdd, Nat.reduceSub, Nat.zero_add, Nat.sub_self, and_true, true_and, reduceCtorEq, if_true, if_false, ite_true, ite_false, Bool.false_eq_true, Bool.not_true, Bool.not_false, decide_eq_true_eq, ↓cl h1, raise_n, h_sp raise_eq]; try simp only [SF.Un0])
  refine ⟨ko, ?_⟩
  simp only [List.cons.injEq, and_true] at i0 i1 i2 i3 i4 i5 i6
  have t1 : noEx (.tup [one]) = true := by
    show (noEx one && true) = true
    rw [n1]; rfl
  have t2 : noEx (.tup [one, other]) = true := by
    show (noEx one && (noEx other && true)) = true
    rw [n1, n2]; rfl
  have u1 : ∀ n, clD n (.tup [one]) = true := fun n => by
    show (clD n one && true) = true
    rw [ko.c1]; rfl
  have u2 : ∀ n, clD n (.tup [one, other]) = true := fun n => by
    show (clD n one && (clD n other && true)) = true
    rw [ko.c1, ko.c2]; rfl
  rcases ko.cases with rfl | rfl | rfl | rfl | rfl | rfl | rfl
  · obtain ⟨j0, j1, j2, j3, j4, j5, j6⟩ := i0
    refine ⟨x0, ?_⟩
    rw [if_pos (show T.isa (errK 0 one other).cls "ArgumentError" = true from j0)]
    exact ⟨⟨.inl rfl, t1⟩, trQ_self (u1 _) h⟩
  · obtain ⟨j0, j1, j2, j3, j4, j5, j6⟩ := i1
    refine ⟨x1, ?_⟩
    rw [if_neg (show ¬ T.isa (errK 1 one other).cls "ArgumentError" = true from fun z => Bool.false_ne_true (j0 ▸ z))]
    refine ⟨x1, ?_⟩
    rw [if_pos (show T.isa (errK 1 one other).cls "PaperError" = true from j1)]
    exact ⟨⟨.inl rfl, t1⟩, trQ_self (u1 _) h⟩
  · obtain ⟨j0, j1, j2, j3, j4, j5, j6⟩ := i2
    refine ⟨x2, ?_⟩
    rw [if_neg (show ¬ T.isa (errK 2 one other).cls "ArgumentError" = true from fun z => Bool.false_ne_true (j0 ▸ z))]
    refine ⟨x2, ?_⟩
    rw [if_neg (show ¬ T.isa (errK 2 one other).cls "PaperError" = true from fun z => Bool.false_ne_true (j1 ▸ z))]
    refine ⟨x2, ?_⟩
    rw [if_pos (show T.isa (errK 2 one other).cls "TooMany" = true from j2)]
    exact ⟨⟨.inl rfl, t1⟩, trQ_self (u1 _) h⟩
  · obtain ⟨j0, j1, j2, j3, j4, j5, j6⟩ := i3
    refine ⟨x3, ?_⟩
    rw [if_neg (show ¬ T.isa (errK 3 one other).cls "ArgumentError" = true from fun z => Bool.false_ne_true (j0 ▸ z))]
    refine ⟨x3, ?_⟩
    rw [if_neg (show ¬ T.isa (errK 3 one other).cls "PaperError" = true from fun z => Bool.false_ne_true (j1 ▸ z))]
    refine ⟨x3, ?_⟩
    rw [if_neg (show ¬ T.isa (errK 3 one other).cls "TooMany" = true from fun z => Bool.false_ne_true (j2 ▸ z))]
    refine ⟨x3, ?_⟩
    rw [if_pos (show T.isa (errK 3 one other).cls "CheckError" = true from j3)]
    exact ⟨⟨.inl rfl, t1⟩, trQ_self (u1 _) h⟩
  · obtain ⟨j0, j1, j2, j3, j4, j5, j6⟩ := i4
    refine ⟨x4, ?_⟩
    rw [if_neg (show ¬ T.isa (errK 4 one other).cls "ArgumentError" = true from fun z => Bool.false_ne_true (j0 ▸ z))]
    refine ⟨x4, ?_⟩
    rw [if_neg (show ¬ T.isa (errK 4 one other).cls "PaperError" = true from fun z => Bool.false_ne_true (j1 ▸ z))]
    refine ⟨x4, ?_⟩
    rw [if_neg (show ¬ T.isa (errK 4 one other).cls "TooMany" = true from fun z => Bool.false_ne_true (j2 ▸ z))]
    refine ⟨x4, ?_⟩
    rw [if_neg (show ¬ T.isa (errK 4 one other).cls "CheckError" = true from fun z => Bool.false_ne_true (j3 ▸ z))]
    refine ⟨x4, ?_⟩
    rw [if_pos (show T.isa (errK 4 one other).cls "TextError" = true from j4)]
    exact ⟨⟨.inl rfl, t1⟩, trQ_self (u1 _) h⟩
  · obtain ⟨j0, j1, j2, j3, j4, j5, j6⟩ := i5
    refine ⟨x5, ?_⟩
    rw [if_neg (show ¬ T.isa (errK 5 one other).cls "ArgumentError" = true from fun z => Bool.false_ne_true (j0 ▸ z))]
    refine ⟨x5, ?_⟩
    rw [if_neg (show ¬ T.isa (errK 5 one other).cls "PaperError" = true from fun z => Bool.false_ne_true (j1 ▸ z))]
    refine ⟨x5, ?_⟩
    rw [if_neg (show ¬ T.isa (errK 5 one other).cls "TooMany" = true from fun z => Bool.false_ne_true (j2 ▸ z))]
    refine ⟨x5, ?_⟩
    rw [if_neg (show ¬ T.isa (errK 5 one other).cls "CheckError" = true from fun z => Bool.false_ne_true (j3 ▸ z))]
    refine ⟨x5, ?_⟩
    rw [if_neg (show ¬ T.isa (errK 5 one other).cls "TextError" = true from fun z => Bool.false_ne_true (j4 ▸ z))]
    refine ⟨x5, ?_⟩
    rw [if_pos (show T.isa (errK 5 one other).cls "LogError" = true from j5)]
    exact ⟨⟨.inl rfl, t2⟩, trQ_self (u2 _) h⟩
  · obtain ⟨j0, j1, j2, j3, j4, j5, j6⟩ := i6
    refine ⟨x6, ?_⟩
    rw [if_neg (show ¬ T.isa (errK 6 one other).cls "ArgumentError" = true from fun z => Bool.false_ne_true (j0 ▸ z))]
    refine ⟨x6, ?_⟩
    rw [if_neg (show ¬ T.isa (errK 6 one other).cls "PaperError" = true from fun z => Bool.false_ne_true (j1 ▸ z))]
    refine ⟨x6, ?_⟩
    rw [if_neg (show ¬ T.isa (errK 6 one other).cls "TooMany" = true from fun z => Bool.false_ne_true (j2 ▸ z))]
    refine ⟨x6, ?_⟩
    rw [if_neg (show ¬ T.isa (errK 6 one other).cls "CheckError" = true from fun z => Bool.false_ne_true (j3 ▸ z))]
    refine ⟨x6, ?_⟩
    rw [if_neg (show ¬ T.isa (errK 6 one other).cls "TextError" = true from fun z => Bool.false_ne_true (j4 ▸ z))]
    refine ⟨x6, ?_⟩
    rw [if_neg (show ¬ T.isa (errK 6 one other).cls "LogError" = true from fun z => Bool.false_ne_true (j5 ▸ z))]
    refine ⟨x6, ?_⟩
    rw [if_pos (show T.isa (errK 6 one other).cls "CommandError" = true from j6)]
    exact ⟨⟨.inl rfl, t1⟩, trQ_self (u1 _) h⟩
end K00

-- T0c
set_option Elab.async false
set_option linter.all false
set_option maxRecDepth 100000
set_option maxHeartbeats 4000000
namespace K00
open PySem L2 SD SL SP
theorem draws_eq {ns : List Int} {E : QX} {Q : QV} : sp_draws.sp [.scr ns] [] E Q = ∀ xs, okX xs → xs.length ≤ 3780 → Q (.lref 0) [.lst (xs.map .int)] := by
  refine propext ⟨fun ⟨ns', e1, _, h⟩ => ?_, fun h => ⟨ns, rfl, rfl, h⟩⟩
  exact h
theorem draws_n : sp_draws.n = 1 := rfl
theorem d_st {xs : List Int} : [Cell.lst (xs.map .int), Cell.lst [.int 0]] = dSt xs 0 [] := rfl
theorem lim_eq {S : Store} {E : QX} {Q : QV} : sp_lim.sp [] S E Q = Q (.bl true) S := propext ⟨fun h => h.2, fun h => ⟨rfl, h⟩⟩
theorem lim_n : sp_lim.n = 0 := rfl
theorem ret_law {Q : QV} {S : Store} (h : Q (.bl true) []) : trQ [] Q (.bl true) S := ⟨[], ⟨by simp, ⟨S, rfl⟩, fun k c h => by simp at h⟩, rfl, h⟩
theorem eqk_ll' {a b : Nat} {xs ys : List D} {S : Store} {K : Bool → Prop} (h1 : S[a]? = some (.lst xs)) (h2 : S[b]? = some (.lst ys)) (o : (okDs 20 xs && okDs 20 ys && eqDs xs ys) = true) (k : K true) : eqK (.lref a) (.lref b) S K := by
  have e : eqK (.lref a) (.lref b) S K = cellL S a fun xs => cellL S b fun ys => (okDs 20 xs = true ∧ okDs 20 ys = true) ∧ K (eqDs xs ys) := rfl
  rw [e, cellL_known h1, cellL_known h2]
  simp only [Bool.and_eq_true] at o
  exact ⟨⟨o.1.1, o.1.2⟩, o.2 ▸ k⟩
theorem kinds_ok {k : Int} {a b : D} (h : Ko k a b) : (okDs 20 (kindsL k) && okDs 20 (kindsL k) && eqDs (kindsL k) (kindsL k)) = true := by
  rcases h.cases with rfl | rfl | rfl | rfl | rfl | rfl | rfl <;> rfl
structure Val (d : D) : Prop where
  fit : Fit 19 100 d
  cl : ∀ n, clD n d = true
  nx : noEx d = true
def vals : List D := [.str "word", .str "", .str "form", .int 0, .int 17, .int (-3), .non, .tup [.str "a", .int 5], .str "a line", .bl true]
theorem vals_ok : ∀ d ∈ vals, Val d := by
  intro d m
  unfold vals at m
  simp only [List.mem_cons, List.not_mem_nil, or_false] at m
  rcases m with rfl | rfl | rfl | rfl | rfl | rfl | rfl | rfl | rfl | rfl <;> exact ⟨⟨by decide +kernel, by decide +kernel, by decide +kernel, by decide +kernel, by decide +kernel⟩, fun n => rfl, rfl⟩
theorem fld_fit {k : Int} {a b : D} (ha : Val a) (hb : Val b) : Fit 20 8000 (fldK k a b) := by
  unfold fldK
  split
  · refine fit_tup (c := 100) (fun d m => ?_) (by simp)
    simp only [List.mem_cons, List.not_mem_nil, or_false] at m
    rcases m with rfl | rfl
    · exact ha.fit
    · exact hb.fit
  · refine fit_tup (c := 100) (fun d m => ?_) (by simp)
    simp only [List.mem_cons, List.not_mem_nil, or_false] at m
    subst m
    exact ha.fit
theorem fld_l {k : Int} {a b : D} : noL (fldK k a b) = true := by
  unfold fldK
  split <;> rfl
theorem get_c {S : Store} {a b c d : Cell} : (S ++ [a, b, c] ++ [d])[S.length + 2]? = some c := by simp
theorem get_d {S : Store} {a b c d : Cell} : (S ++ [a, b, c] ++ [d])[(S ++ [a, b, c]).length]? = some d := by simp
def sp_law : FnD := ⟨1, fun ds S _ Q => ∃ ns, ds = [.scr ns] ∧ S = [] ∧ Q (.bl true) []⟩
theorem h_law (T : Tab) (h1 : T.sp "_law_draws" = some sp_draws) (h2 : T.sp "_law_limits_right" = some sp_lim) (h3 : T.sp "_law_one" = some sp_one) (h4 : T.sp "_law_caught" = some sp_caught) (h5 : T.sp "_law_fields" = some sp_fields) :
    Meets sp_law N_law (t_law T) := by
  rintro ds S E Q hl ⟨ns, rfl, rfl, h⟩
  unfold t_law N_law
  ((try simp only [SD.startD, List.length_cons, List.length_nil, List.map_cons, List.map_nil, List.replicate_succ, List.replicate_zero, List.cons_append, List.nil_append, Nat.reduceAdd, Nat.reduceSub, Nat.zero_add]); simp only [↓SF.Pre0, ↓SD.ev_ifE, SF.Post0, SD.dE, SD.pairs, List.length_cons, List.length_nil, List.map_cons, List.map_nil, List.set_cons_zero, List.set_cons_succ, List.replicate_succ, List.replicate_zero, List.cons_append, List.nil_append, List.zipWith_cons_cons, List.zipWith_nil_left, Nat.add_sub_cancel, Nat.reduceAdd, Nat.reduceSub, Nat.zero_add, Nat.sub_self, and_true, true_and, reduceCtorEq, if_true, if_false, ite_true, ite_false, Bool.false_eq_true, Bool.not_true, Bool.not_false, decide_eq_true_eq, ↓cl h1, h_sp draws_eq, draws_n]; try simp only [SF.Un0])
  intro xs hx hn
  have r7 : iRange 0 7 = [.int 0, .int 1, .int 2, .int 3, .int 4, .int 5, .int 6] := rfl
  rw [d_st]
  ((try simp only [SD.startD, List.length_cons, List.length_nil, List.map_cons, List.map_nil, List.replicate_succ, List.replicate_zero, List.cons_append, List.nil_append, Nat.reduceAdd, Nat.reduceSub, Nat.zero_add]); simp only [↓SF.Pre0, ↓SD.ev_ifE, SF.Post0, SD.dE, SD.pairs, List.length_cons, List.length_nil, List.map_cons, List.map_nil, List.set_cons_zero, List.set_cons_succ, List.replicate_succ, List.replicate_zero, List.cons_append, List.nil_append, List.zipWith_cons_cons, List.zipWith_nil_left, Nat.add_sub_cancel, Nat.reduceAdd, Nat.reduceSub, Nat.zero_add, Nat.sub_self, and_true, true_and, reduceCtorEq, if_true, if_false, ite_true, ite_false, Bool.false_eq_true, Bool.not_true, Bool.not_false, decide_eq_true_eq, ↓cl h2, lim_n, h_sp lim_eq, dSt_app, dSt_len]; try simp only [SF.Un0])
  refine ⟨⟨by decide, by decide⟩, ?_⟩
  refine for_inv (fun j env S' => ∃ (e4 e5 e6 e7 : Option D) (p : Int) (g : Store), env = [some (D.scr ns), some (D.lref 0), some (D.lref 1), some (D.lref 2), e4, e5, e6, e7] ∧ S' = dSt xs p ([Cell.lst vals] ++ g) ∧ 0 ≤ p ∧ p ≤ 2 * (j : Int)) (j := 0) (fun i dd env S' K hd hi hkk => ?_) ⟨_, _, _, _, 0, [], rfl, rfl, by omega, by omega⟩ (fun env S' hi => ?_)
  · obtain ⟨e4, e5, e6, e7, p, g, rfl, rfl, hp0, hp1⟩ := hi
    rw [Nat.zero_add] at hp1 hkk
    obtain ⟨rfl, hi7⟩ := SP.range_get hd
    have hi7 : i < 7 := hi7
    refine ⟨trivial, ?_⟩
    rw [SD.ev_gVar]
    ((try simp only [SD.startD, List.length_cons, List.length_nil, List.map_cons, List.map_nil, List.replicate_succ, List.replicate_zero, List.cons_append, List.nil_append, Nat.reduceAdd, Nat.reduceSub, Nat.zero_add]); simp only [↓SF.Pre0, ↓SD.ev_ifE, SF.Post0, SD.dE, SD.pairs, List.length_cons, List.length_nil, List.map_cons, List.map_nil, List.set_cons_zero, List.set_cons_succ, List.replicate_succ, List.replicate_zero, List.cons_append, List.nil_append, List.zipWith_cons_cons, List.zipWith_nil_left, Nat.add_sub_cancel, Nat.reduceAdd, Nat.reduceSub, Nat.zero_add, Nat.sub_self, and_true, true_and, reduceCtorEq, if_true, if_false, ite_true, ite_false, Bool.false_eq_true, Bool.not_true, Bool.not_false, decide_eq_true_eq, ↓cl h3, one_n]; try simp only [SF.Un0])
    refine one_all (P := Val) (k := 0) (ys := vals) rfl ⟨hx, by omega, by omega, by omega, by unfold vals; simp, rfl⟩ vals_ok (fun a ha => ?_)
    ((try simp only [SD.startD, List.length_cons, List.length_nil, List.map_cons, List.map_nil, List.replicate_succ, List.replicate_zero, List.cons_append, List.nil_append, Nat.reduceAdd, Nat.reduceSub, Nat.zero_add]); simp only [↓SF.Pre0, ↓SD.ev_ifE, SF.Post0, SD.dE, SD.pairs, List.length_cons, List.length_nil, List.map_cons, List.map_nil, List.set_cons_zero, List.set_cons_succ, List.replicate_succ, List.replicate_zero, List.cons_append, List.nil_append, List.zipWith_cons_cons, List.zipWith_nil_left, Nat.add_sub_cancel, Nat.reduceAdd, Nat.reduceSub, Nat.zero_add, Nat.sub_self, and_true, true_and, reduceCtorEq, if_true, if_false, ite_true, ite_false, Bool.false_eq_true, Bool.not_true, Bool.not_false, decide_eq_true_eq, ↓cl h3, one_n]; try simp only [SF.Un0])
    refine one_all (P := Val) (k := 0) (ys := vals) rfl ⟨hx, by omega, by omega, by omega, by unfold vals; simp, rfl⟩ vals_ok (fun b hb => ?_)
    have ko : Ko (i : Int) a b := ⟨by omega, by omega, ha.cl, hb.cl⟩
    have kok := kinds_ok ko
    have hf := fld_fit (k := (i : Int)) ha hb
    have hsd := hf.sd (Nat.le_refl _)
    have hcons : ∀ g : Store, Cell.lst vals :: g = [Cell.lst vals] ++ g := fun g => rfl
    ((try simp only [SD.startD, List.length_cons, List.length_nil, List.map_cons, List.map_nil, List.replicate_succ, List.replicate_zero, List.cons_append, List.nil_append, Nat.reduceAdd, Nat.reduceSub, Nat.zero_add]); simp only [↓SF.Pre0, ↓SD.ev_ifE, SF.Post0, SD.dE, SD.pairs, List.length_cons, List.length_nil, List.map_cons, List.map_nil, List.set_cons_zero, List.set_cons_succ, List.replicate_succ, List.replicate_zero, List.cons_append, List.nil_append, List.zipWith_cons_cons, List.zipWith_nil_left, Nat.add_sub_cancel, Nat.reduceAdd, Nat.reduceSub, Nat.zero_add, Nat.sub_self, and_true, true_and, reduceCtorEq, if_true, if_false, ite_true, ite_false, Bool.false_eq_true, Bool.not_true, Bool.not_false, decide_eq_true_eq, ↓cl h4, caught_n, h_sp caught_eq]; try simp only [SF.Un0])
    refine ⟨ko, fun x y => ?_⟩
    ((try simp only [SD.startD, List.length_cons, List.length_nil, List.map_cons, List.map_nil, List.replicate_succ, List.replicate_zero, List.cons_append, List.nil_append, Nat.reduceAdd, Nat.reduceSub, Nat.zero_add]); simp only [↓SF.Pre0, ↓SD.ev_ifE, SF.fl_nil, SF.fl_cons, SF.cp_nil, SF.cp_cons, SF.Post0, SD.dE, SD.pairs, List.length_cons, List.length_nil, List.map_cons, List.map_nil, List.set_cons_zero, List.set_cons_succ, List.replicate_succ, List.replicate_zero, List.cons_append, List.nil_append, List.zipWith_cons_cons, List.zipWith_nil_left, Nat.add_sub_cancel, Nat.reduceAdd, Nat.reduceSub, Nat.zero_add, Nat.sub_self, and_true, true_and, reduceCtorEq, if_true, if_false, ite_true, ite_false, Bool.false_eq_true, Bool.not_true, Bool.not_false, decide_eq_true_eq, r7]; try simp only [SF.Un0])
    refine ⟨⟨by decide, by decide⟩, line1000 (by decide), ?_⟩
    have kf : [D.bl (decide ((0 : Int) = (i : Int))), D.bl (decide ((1 : Int) = (i : Int))), D.bl (decide ((2 : Int) = (i : Int))), D.bl (decide ((3 : Int) = (i : Int))), D.bl (decide ((4 : Int) = (i : Int))), D.bl (decide ((5 : Int) = (i : Int))), D.bl (decide ((6 : Int) = (i : Int)))] = kindsL (i : Int) := rfl
    simp only [kf]
    refine eqk_ll' (xs := kindsL (i : Int)) (ys := kindsL (i : Int)) (get_c) (get_d) kok ?_
    have hfin : ∀ g1 g2 : Store, K [some (D.scr ns), some (D.lref 0), some (D.lref 1), some (D.lref 2), some (D.int (i : Int)), some a, some b, e7] (dSt xs (p + 1 + 1) (Cell.lst vals :: g) ++ g1 ++ g2) := fun g1 g2 =>
      hkk _ _ ⟨_, _, _, _, p + 1 + 1, g ++ g1 ++ g2, rfl, by simp [dSt], by omega, by omega⟩
    have hok := hf.ok
    by_cases h5k : (i : Int) = 5
    · have h5d : decide ((i : Int) = 5) = true := decide_eq_true h5k
      have e5 : fldK (i : Int) a b = .tup [a, b] := by unfold fldK; rw [if_pos h5k]
      rw [e5] at hok hsd
      ((try simp only [SD.startD, List.length_cons, List.length_nil, List.map_cons, List.map_nil, List.replicate_succ, List.replicate_zero, List.cons_append, List.nil_append, Nat.reduceAdd, Nat.reduceSub, Nat.zero_add]); simp only [↓SF.Pre0, ↓SD.ev_ifE, SF.Post0, SD.dE, SD.pairs, List.length_cons, List.length_nil, List.map_cons, List.map_nil, List.set_cons_zero, List.set_cons_succ, List.replicate_succ, List.replicate_zero, List.cons_append, List.nil_append, List.zipWith_cons_cons, List.zipWith_nil_left, Nat.add_sub_cancel, Nat.reduceAdd, Nat.reduceSub, Nat.zero_add, Nat.sub_self, and_true, true_and, reduceCtorEq, if_true, if_false, ite_true, ite_false, Bool.false_eq_true, Bool.not_true, Bool.not_false, decide_eq_true_eq, ↓cl h5, fields_n, h_sp fields_eq, e5, h_reprD (repr_1 (d := .tup [a, b]) rfl), h5d]; try simp only [SF.Un0])
      refine ⟨⟨ko, ha.nx, hb.nx⟩, ⟨hok, hsd⟩, ⟨hok, hsd⟩, ?_⟩
      rw [eqk_str, decide_eq_true rfl]
      ((try simp only [SD.startD, List.length_cons, List.length_nil, List.map_cons, List.map_nil, List.replicate_succ, List.replicate_zero, List.cons_append, List.nil_append, Nat.reduceAdd, Nat.reduceSub, Nat.zero_add]); simp only [↓SF.Pre0, ↓SD.ev_ifE, SF.Post0, SD.dE, SD.pairs, List.length_cons, List.length_nil, List.map_cons, List.map_nil, List.set_cons_zero, List.set_cons_succ, List.replicate_succ, List.replicate_zero, List.cons_append, List.nil_append, List.zipWith_cons_cons, List.zipWith_nil_left, Nat.add_sub_cancel, Nat.reduceAdd, Nat.reduceSub, Nat.zero_add, Nat.sub_self, and_true, true_and, reduceCtorEq, if_true, if_false, ite_true, ite_false, Bool.false_eq_true, Bool.not_true, Bool.not_false, decide_eq_true_eq]; try simp only [SF.Un0])
      exact hfin _ _
    · have h5d : decide ((i : Int) = 5) = false := decide_eq_false h5k
      have e5 : fldK (i : Int) a b = .tup [a] := by unfold fldK; rw [if_neg h5k]
      rw [e5] at hok hsd
      ((try simp only [SD.startD, List.length_cons, List.length_nil, List.map_cons, List.map_nil, List.replicate_succ, List.replicate_zero, List.cons_append, List.nil_append, Nat.reduceAdd, Nat.reduceSub, Nat.zero_add]); simp only [↓SF.Pre0, ↓SD.ev_ifE, SF.Post0, SD.dE, SD.pairs, List.length_cons, List.length_nil, List.map_cons, List.map_nil, List.set_cons_zero, List.set_cons_succ, List.replicate_succ, List.replicate_zero, List.cons_append, List.nil_append, List.zipWith_cons_cons, List.zipWith_nil_left, Nat.add_sub_cancel, Nat.reduceAdd, Nat.reduceSub, Nat.zero_add, Nat.sub_self, and_true, true_and, reduceCtorEq, if_true, if_false, ite_true, ite_false, Bool.false_eq_true, Bool.not_true, Bool.not_false, decide_eq_true_eq, ↓cl h5, fields_n, h_sp fields_eq, e5, h_reprD (repr_1 (d := .tup [a]) rfl), h5d]; try simp only [SF.Un0])
      refine ⟨⟨ko, ha.nx, hb.nx⟩, ⟨hok, hsd⟩, ⟨hok, hsd⟩, ?_⟩
      rw [eqk_str, decide_eq_true rfl]
      ((try simp only [SD.startD, List.length_cons, List.length_nil, List.map_cons, List.map_nil, List.replicate_succ, List.replicate_zero, List.cons_append, List.nil_append, Nat.reduceAdd, Nat.reduceSub, Nat.zero_add]); simp only [↓SF.Pre0, ↓SD.ev_ifE, SF.Post0, SD.dE, SD.pairs, List.length_cons, List.length_nil, List.map_cons, List.map_nil, List.set_cons_zero, List.set_cons_succ, List.replicate_succ, List.replicate_zero, List.cons_append, List.nil_append, List.zipWith_cons_cons, List.zipWith_nil_left, Nat.add_sub_cancel, Nat.reduceAdd, Nat.reduceSub, Nat.zero_add, Nat.sub_self, and_true, true_and, reduceCtorEq, if_true, if_false, ite_true, ite_false, Bool.false_eq_true, Bool.not_true, Bool.not_false, decide_eq_true_eq]; try simp only [SF.Un0])
      exact hfin _ _
  · obtain ⟨e4, e5, e6, e7, p, g, rfl, rfl, hp0, hp1⟩ := hi
    refine ⟨trivial, ?_⟩
    ((try simp only [SD.startD, List.length_cons, List.length_nil, List.map_cons, List.map_nil, List.replicate_succ, List.replicate_zero, List.cons_append, List.nil_append, Nat.reduceAdd, Nat.reduceSub, Nat.zero_add]); simp only [↓SF.Pre0, ↓SD.ev_ifE, SF.Post0, SD.dE, SD.pairs, List.length_cons, List.length_nil, List.map_cons, List.map_nil, List.set_cons_zero, List.set_cons_succ, List.replicate_succ, List.replicate_zero, List.cons_append, List.nil_append, List.zipWith_cons_cons, List.zipWith_nil_left, Nat.add_sub_cancel, Nat.reduceAdd, Nat.reduceSub, Nat.zero_add, Nat.sub_self, and_true, true_and, reduceCtorEq, if_true, if_false, ite_true, ite_false, Bool.false_eq_true, Bool.not_true, Bool.not_false, decide_eq_true_eq]; try simp only [SF.Un0])
    exact ret_law h
end K00

-- T0d
set_option Elab.async false
set_option linter.all false
set_option maxRecDepth 100000
set_option maxHeartbeats 4000000
namespace K00
open PySem L2 SD SL SP
theorem inst_eq {T : Tab} {k c : Str} {fs : List (Str × D)} {r : SD.Env} {S : Store} {E : QX} {Q : QV} : eInst T 0 k (some (.exc c fs) :: r) S E Q = Q (.bl (T.isa c k)) S := rfl
theorem kinds_sp (T : Tab) (c : Str) (fs : List (Str × D)) (S : Store) (Q : QV)
    (h : Q (.lref (S.length + 2)) (S ++ [.lst ((["ArgumentError", "PaperError", "TooMany", "CheckError"] : List Str).map fun k => .bl (T.isa c k)), .lst ((["TextError", "LogError", "CommandError"] : List Str).map fun k => .bl (T.isa c k)), .lst ((["ArgumentError", "PaperError", "TooMany", "CheckError", "TextError", "LogError", "CommandError"] : List Str).map fun k => .bl (T.isa c k))])) :
    tk__law_kinds T ⟨fun _ _ => False, Q, fun _ _ _ => False, fun _ _ => False, fun _ _ => False⟩ (startD N__law_kinds [.exc c fs]) S := by
  unfold tk__law_kinds N__law_kinds
  ((try simp only [SD.startD, List.length_cons, List.length_nil, List.map_cons, List.map_nil, List.replicate_succ, List.replicate_zero, List.cons_append, List.nil_append, Nat.reduceAdd, Nat.reduceSub, Nat.zero_add]); simp only [↓SF.Pre0, ↓SD.ev_ifE, SF.Post0, SD.dE, SD.pairs, List.length_cons, List.length_nil, List.map_cons, List.map_nil, List.set_cons_zero, List.set_cons_succ, List.replicate_succ, List.replicate_zero, List.cons_append, List.nil_append, List.zipWith_cons_cons, List.zipWith_nil_left, Nat.add_sub_cancel, Nat.reduceAdd, Nat.reduceSub, Nat.zero_add, Nat.sub_self, and_true, true_and, reduceCtorEq, if_true, if_false, ite_true, ite_false, Bool.false_eq_true, Bool.not_true, Bool.not_false, decide_eq_true_eq, inst_eq, h_addD SD.add_4, h_cellL cl_a, h_cellL cl_b]; try simp only [SF.Un0])
  refine ⟨line1000 (by decide), ?_⟩
  simp only [List.append_assoc, List.length_append, List.length_cons, List.length_nil]
  exact h
end K00

-- Xk00b
set_option maxHeartbeats 0
namespace K00
open PySem SD
theorem trk__law_kinds : trKb ⟨N__law_kinds, L2.defScope (top 43), none, false, pd.tab []⟩ (L2.defBody (top 43)) = some (tk__law_kinds (pd.tab [])) := by kernel_rfl
theorem tr__law_draws (l : List (Str × FnD)) : trBody (tr 30) ⟨SL.N__law_draws, L2.defScope (top 37), none, true, pd.tab l⟩ 12 (L2.defBody (top 37)) = some (SL.t__law_draws (pd.tab l)) := by kernel_rfl
theorem tr__law_more (l : List (Str × FnD)) : trBody (tr 30) ⟨SL.N__law_more, L2.defScope (top 38), none, true, pd.tab l⟩ 12 (L2.defBody (top 38)) = some (SL.t__law_more (pd.tab l)) := by kernel_rfl
theorem tr__law_take (l : List (Str × FnD)) : trBody (tr 30) ⟨SL.N__law_take, L2.defScope (top 39), none, true, pd.tab l⟩ 12 (L2.defBody (top 39)) = some (SL.t__law_take (pd.tab l)) := by kernel_rfl
theorem tr__law_one (l : List (Str × FnD)) : trBody (tr 30) ⟨SL.N__law_one, L2.defScope (top 40), none, true, pd.tab l⟩ 12 (L2.defBody (top 40)) = some (SL.t__law_one (pd.tab l)) := by kernel_rfl
theorem tr__law_limits_right (l : List (Str × FnD)) : trBody (tr 30) ⟨N__law_limits_right, L2.defScope (top 41), none, true, pd.tab l⟩ 12 (L2.defBody (top 41)) = some (t__law_limits_right (pd.tab l)) := by kernel_rfl
theorem tr__law_raise (l : List (Str × FnD)) : trBody (tr 30) ⟨N__law_raise, L2.defScope (top 42), none, true, pd.tab l⟩ 12 (L2.defBody (top 42)) = some (t__law_raise (pd.tab l)) := by kernel_rfl
theorem tr__law_caught (l : List (Str × FnD)) : trBody (tr 30) ⟨N__law_caught, L2.defScope (top 44), none, true, pd.tabK l kns⟩ 12 (L2.defBody (top 44)) = some (t__law_caught (pd.tabK l kns)) := by kernel_rfl
theorem tr__law_fields (l : List (Str × FnD)) : trBody (tr 30) ⟨N__law_fields, L2.defScope (top 45), none, true, pd.tab l⟩ 12 (L2.defBody (top 45)) = some (t__law_fields (pd.tab l)) := by kernel_rfl
theorem tr_law (l : List (Str × FnD)) : trBody (tr 30) ⟨N_law, L2.defScope (top 46), none, true, pd.tab l⟩ 12 (L2.defBody (top 46)) = some (t_law (pd.tab l)) := by kernel_rfl
end K00

-- Ck00
set_option Elab.async false
set_option linter.all false
set_option maxRecDepth 100000
set_option maxHeartbeats 2000000
namespace K00
open PySem L2 SD SL SP
section
variable {w : World} {K : PySem.W.Frag} {mg : Str → Option Value} {base : Heap}
theorem ok__law_kinds (g : Gd pd pw w K mg base) : Okk pd pw w K mg base "_law_kinds" (["ArgumentError", "PaperError", "TooMany", "CheckError"], ["TextError", "LogError", "CommandError"]) 1 :=
  okk_of g (i := 6) (dd := (⟨("_law_kinds", none), "_law_kinds", "_law_kinds", L2.defArgs (top 43), L2.defBody (top 43), L2.defScope (top 43), [], []⟩ : He.DefD)) rfl rfl ⟨rfl, rfl⟩ (N := N__law_kinds) (ps := ["e"]) ⟨rfl, rfl, rfl, by decide +kernel, rfl, by decide +kernel, by decide +kernel⟩ (fun _ _ _ _ _ _ us hl => match us, hl with | [_], _ => rfl) rfl trk__law_kinds (fun c fs S Q h => kinds_sp _ c fs S Q h)
theorem o__law_draws (g : Gd pd pw w K mg base) : Okd pd pw w K mg base "_law_draws" (sp_draws) 1 :=
  okd_of g (i := 0) (dd := (⟨("_law_draws", none), "_law_draws", "_law_draws", L2.defArgs (top 37), L2.defBody (top 37), L2.defScope (top 37), [], []⟩ : He.DefD)) rfl rfl ⟨rfl, rfl⟩ (N := N__law_draws) (ps := ["script"]) ⟨rfl, rfl, rfl, by decide +kernel, rfl, by decide +kernel, by decide +kernel⟩ (fun _ _ _ _ _ _ us hl => match us, hl with | [_], _ => rfl) (d := sp_draws) rfl (k := 0) (l := []) trivial (tr__law_draws _) (h__law_draws _ )
theorem o__law_more (g : Gd pd pw w K mg base) : Okd pd pw w K mg base "_law_more" (sp_more) 1 :=
  okd_of g (i := 1) (dd := (⟨("_law_more", none), "_law_more", "_law_more", L2.defArgs (top 38), L2.defBody (top 38), L2.defScope (top 38), [], []⟩ : He.DefD)) rfl rfl ⟨rfl, rfl⟩ (N := N__law_more) (ps := ["draws", "place"]) ⟨rfl, rfl, rfl, by decide +kernel, rfl, by decide +kernel, by decide +kernel⟩ (fun _ _ _ _ _ _ us hl => match us, hl with | [_, _], _ => rfl) (d := sp_more) rfl (k := 0) (l := []) trivial (tr__law_more _) (h__law_more _ )
theorem o__law_take (g : Gd pd pw w K mg base) : Okd pd pw w K mg base "_law_take" (sp_take) 2 :=
  okd_of g (i := 2) (dd := (⟨("_law_take", none), "_law_take", "_law_take", L2.defArgs (top 39), L2.defBody (top 39), L2.defScope (top 39), [], []⟩ : He.DefD)) rfl rfl ⟨rfl, rfl⟩ (N := N__law_take) (ps := ["draws", "at", "many"]) ⟨rfl, rfl, rfl, by decide +kernel, rfl, by decide +kernel, by decide +kernel⟩ (fun _ _ _ _ _ _ us hl => match us, hl with | [_, _, _], _ => rfl) (d := sp_take) rfl (k := 1) (l := [("_law_more", sp_more)]) ⟨(o__law_more g).mono (by decide), trivial⟩ (tr__law_take _) (h__law_take _ (by kernel_rfl))
theorem o__law_one (g : Gd pd pw w K mg base) : Okd pd pw w K mg base "_law_one" (sp_one) 3 :=
  okd_of g (i := 3) (dd := (⟨("_law_one", none), "_law_one", "_law_one", L2.defArgs (top 40), L2.defBody (top 40), L2.defScope (top 40), [], []⟩ : He.DefD)) rfl rfl ⟨rfl, rfl⟩ (N := N__law_one) (ps := ["rows", "draws", "at"]) ⟨rfl, rfl, rfl, by decide +kernel, rfl, by decide +kernel, by decide +kernel⟩ (fun _ _ _ _ _ _ us hl => match us, hl with | [_, _, _], _ => rfl) (d := sp_one) rfl (k := 2) (l := [("_law_take", sp_take)]) ⟨(o__law_take g).mono (by decide), trivial⟩ (tr__law_one _) (h__law_one _ (by kernel_rfl))
theorem o__law_limits_right (g : Gd pd pw w K mg base) : Okd pd pw w K mg base "_law_limits_right" (sp_lim) 1 :=
  okd_of g (i := 4) (dd := (⟨("_law_limits_right", none), "_law_limits_right", "_law_limits_right", L2.defArgs (top 41), L2.defBody (top 41), L2.defScope (top 41), [], []⟩ : He.DefD)) rfl rfl ⟨rfl, rfl⟩ (N := N__law_limits_right) (ps := []) ⟨rfl, rfl, rfl, by decide +kernel, rfl, by decide +kernel, by decide +kernel⟩ (fun _ _ _ _ _ _ us hl => match us, hl with | [], _ => rfl) (d := sp_lim) rfl (k := 0) (l := []) trivial (tr__law_limits_right _) (h__law_limits_right _ (by kernel_rfl) (by kernel_rfl) (by kernel_rfl) (by kernel_rfl) (by kernel_rfl) (by kernel_rfl) (by kernel_rfl) (by kernel_rfl) (by kernel_rfl) (by kernel_rfl) (by kernel_rfl) (by kernel_rfl) (by kernel_rfl) (by kernel_rfl) (by kernel_rfl) (by kernel_rfl) (by kernel_rfl) (by kernel_rfl) (by kernel_rfl) (by kernel_rfl) (by kernel_rfl) (by kernel_rfl) (by kernel_rfl) (by kernel_rfl) (by kernel_rfl) (by kernel_rfl))
theorem o__law_raise (g : Gd pd pw w K mg base) : Okd pd pw w K mg base "_law_raise" (sp_raise) 1 :=
  okd_of g (i := 5) (dd := (⟨("_law_raise", none), "_law_raise", "_law_raise", L2.defArgs (top 42), L2.defBody (top 42), L2.defScope (top 42), [], []⟩ : He.DefD)) rfl rfl ⟨rfl, rfl⟩ (N := N__law_raise) (ps := ["k", "one", "other"]) ⟨rfl, rfl, rfl, by decide +kernel, rfl, by decide +kernel, by decide +kernel⟩ (fun _ _ _ _ _ _ us hl => match us, hl with | [_, _, _], _ => rfl) (d := sp_raise) rfl (k := 0) (l := []) trivial (tr__law_raise _) (h__law_raise _ (by kernel_rfl) (by kernel_rfl) (by kernel_rfl) (by kernel_rfl) (by kernel_rfl) (by kernel_rfl) (by kernel_rfl))
theorem o__law_caught (g : Gd pd pw w K mg base) : Okd pd pw w K mg base "_law_caught" (sp_caught) 2 :=
  okd_ofK g (i := 7) (dd := (⟨("_law_caught", none), "_law_caught", "_law_caught", L2.defArgs (top 44), L2.defBody (top 44), L2.defScope (top 44), [], []⟩ : He.DefD)) rfl rfl ⟨rfl, rfl⟩ (N := N__law_caught) (ps := ["k", "one", "other"]) ⟨rfl, rfl, rfl, by decide +kernel, rfl, by decide +kernel, by decide +kernel⟩ (fun _ _ _ _ _ _ us hl => match us, hl with | [_, _, _], _ => rfl) (d := sp_caught) rfl (k := 1) (l := [("_law_raise", sp_raise)]) (lk := kns) ⟨(o__law_raise g).mono (by decide), trivial⟩ (fun z hz => by
    unfold kns at hz
    simp only [List.mem_cons, List.not_mem_nil, or_false] at hz
    subst hz
    · exact (ok__law_kinds g).mono (by decide)) (tr__law_caught _) (h__law_caught _ (by kernel_rfl) (by kernel_rfl) (by kernel_rfl) (by kernel_rfl) (by kernel_rfl) (by kernel_rfl) (by kernel_rfl) (by kernel_rfl) (by kernel_rfl) (by kernel_rfl) (by kernel_rfl) (by kernel_rfl) (by kernel_rfl) (by kernel_rfl) (by kernel_rfl) (by kernel_rfl) (by kernel_rfl) (by kernel_rfl) (by kernel_rfl) (by kernel_rfl) (by kernel_rfl) (by kernel_rfl) (by kernel_rfl) (by kernel_rfl) (by kernel_rfl) (by kernel_rfl) (by kernel_rfl) (by kernel_rfl) (by kernel_rfl) (by kernel_rfl))
theorem o__law_fields (g : Gd pd pw w K mg base) : Okd pd pw w K mg base "_law_fields" (sp_fields) 2 :=
  okd_of g (i := 8) (dd := (⟨("_law_fields", none), "_law_fields", "_law_fields", L2.defArgs (top 45), L2.defBody (top 45), L2.defScope (top 45), [], []⟩ : He.DefD)) rfl rfl ⟨rfl, rfl⟩ (N := N__law_fields) (ps := ["k", "one", "other"]) ⟨rfl, rfl, rfl, by decide +kernel, rfl, by decide +kernel, by decide +kernel⟩ (fun _ _ _ _ _ _ us hl => match us, hl with | [_, _, _], _ => rfl) (d := sp_fields) rfl (k := 1) (l := [("_law_raise", sp_raise)]) ⟨(o__law_raise g).mono (by decide), trivial⟩ (tr__law_fields _) (h__law_fields _ (by kernel_rfl) (by kernel_rfl) (by kernel_rfl) (by kernel_rfl) (by kernel_rfl) (by kernel_rfl) (by kernel_rfl) (by kernel_rfl) (by kernel_rfl) (by kernel_rfl) (by kernel_rfl) (by kernel_rfl) (by kernel_rfl) (by kernel_rfl) (by kernel_rfl))
theorem o_law (g : Gd pd pw w K mg base) : ∃ fd : FuncData, mg "law" = some (.ref (He.ga K "law")) ∧ (∀ (s : Shared) (us : List Value), us.length = 1 → BindsTo s fd ⟨us, []⟩ ((["script"] : List Str).zip us)) ∧ ∀ base : Heap, K.In base → base.Ns mainGlobals mg → FnG pw w K mg base 4 (He.ga K "law") fd ["script"] (LSp (gcOf K) 1 (sp_law).sp) :=
  okd_top g (i := 9) (dd := (⟨("law", none), "law", "law", L2.defArgs (top 46), L2.defBody (top 46), L2.defScope (top 46), [], []⟩ : He.DefD)) rfl rfl ⟨rfl, rfl⟩ (N := N_law) (ps := ["script"]) ⟨rfl, rfl, rfl, by decide +kernel, rfl, by decide +kernel, by decide +kernel⟩ (fun _ _ _ _ _ _ us hl => match us, hl with | [_], _ => rfl) (d := sp_law) rfl (k := 3) (l := [("_law_draws", sp_draws), ("_law_limits_right", sp_lim), ("_law_one", sp_one), ("_law_caught", sp_caught), ("_law_fields", sp_fields)]) (fun base g => ⟨(o__law_draws g).mono (by decide), ⟨(o__law_limits_right g).mono (by decide), ⟨(o__law_one g).mono (by decide), ⟨(o__law_caught g).mono (by decide), ⟨(o__law_fields g).mono (by decide), trivial⟩⟩⟩⟩⟩) (tr_law _) (h_law _ (by kernel_rfl) (by kernel_rfl) (by kernel_rfl) (by kernel_rfl) (by kernel_rfl))
end
end K00

-- Ek00
set_option Elab.async false
set_option linter.all false
set_option maxRecDepth 100000
set_option maxHeartbeats 0
namespace K00
open PySem L2 SD SL
theorem er_0 : True := trivial
theorem er_1 : ErStat1 pw ⟨"ReasonError", ["reason"], "ReasonError.__init__", L2.defArgs (inr (top 2) 0), L2.defBody (inr (top 2) 0), L2.defScope (inr (top 2) 0)⟩ "reason" where
  body := ⟨_, _, _, _, _, _, _, _, _, _, by decide +kernel, rfl⟩
  bind := fun _ _ _ _ _ _ _ _ _ => rfl
  par := ⟨_, rfl, rfl⟩
  sSelf := by decide +kernel
  sF := by decide +kernel
  sSuper := by decide +kernel
  sClass := by decide +kernel
  nocell := by decide +kernel
  co := rfl
  gen := rfl
  kind := rfl
  fne := by decide +kernel
  fdb := by decide +kernel
  top := by decide +kernel
theorem er_2 : ErStat1 pw ⟨"ArgumentError", ["reason"], "ReasonError.__init__", L2.defArgs (inr (top 2) 0), L2.defBody (inr (top 2) 0), L2.defScope (inr (top 2) 0)⟩ "reason" where
  body := ⟨_, _, _, _, _, _, _, _, _, _, by decide +kernel, rfl⟩
  bind := fun _ _ _ _ _ _ _ _ _ => rfl
  par := ⟨_, rfl, rfl⟩
  sSelf := by decide +kernel
  sF := by decide +kernel
  sSuper := by decide +kernel
  sClass := by decide +kernel
  nocell := by decide +kernel
  co := rfl
  gen := rfl
  kind := rfl
  fne := by decide +kernel
  fdb := by decide +kernel
  top := by decide +kernel
theorem er_3 : ErStat1 pw ⟨"CheckError", ["reason"], "ReasonError.__init__", L2.defArgs (inr (top 2) 0), L2.defBody (inr (top 2) 0), L2.defScope (inr (top 2) 0)⟩ "reason" where
  body := ⟨_, _, _, _, _, _, _, _, _, _, by decide +kernel, rfl⟩
  bind := fun _ _ _ _ _ _ _ _ _ => rfl
  par := ⟨_, rfl, rfl⟩
  sSelf := by decide +kernel
  sF := by decide +kernel
  sSuper := by decide +kernel
  sClass := by decide +kernel
  nocell := by decide +kernel
  co := rfl
  gen := rfl
  kind := rfl
  fne := by decide +kernel
  fdb := by decide +kernel
  top := by decide +kernel
theorem er_4 : ErStat1 pw ⟨"PaperError", ["reason"], "ReasonError.__init__", L2.defArgs (inr (top 2) 0), L2.defBody (inr (top 2) 0), L2.defScope (inr (top 2) 0)⟩ "reason" where
  body := ⟨_, _, _, _, _, _, _, _, _, _, by decide +kernel, rfl⟩
  bind := fun _ _ _ _ _ _ _ _ _ => rfl
  par := ⟨_, rfl, rfl⟩
  sSelf := by decide +kernel
  sF := by decide +kernel
  sSuper := by decide +kernel
  sClass := by decide +kernel
  nocell := by decide +kernel
  co := rfl
  gen := rfl
  kind := rfl
  fne := by decide +kernel
  fdb := by decide +kernel
  top := by decide +kernel
theorem er_5 : ErStat1 pw ⟨"TooMany", ["reason"], "ReasonError.__init__", L2.defArgs (inr (top 2) 0), L2.defBody (inr (top 2) 0), L2.defScope (inr (top 2) 0)⟩ "reason" where
  body := ⟨_, _, _, _, _, _, _, _, _, _, by decide +kernel, rfl⟩
  bind := fun _ _ _ _ _ _ _ _ _ => rfl
  par := ⟨_, rfl, rfl⟩
  sSelf := by decide +kernel
  sF := by decide +kernel
  sSuper := by decide +kernel
  sClass := by decide +kernel
  nocell := by decide +kernel
  co := rfl
  gen := rfl
  kind := rfl
  fne := by decide +kernel
  fdb := by decide +kernel
  top := by decide +kernel
theorem er_6 : ErStat1 pw ⟨"TextError", ["at"], "TextError.__init__", L2.defArgs (inr (top 7) 0), L2.defBody (inr (top 7) 0), L2.defScope (inr (top 7) 0)⟩ "at" where
  body := ⟨_, _, _, _, _, _, _, _, _, _, by decide +kernel, rfl⟩
  bind := fun _ _ _ _ _ _ _ _ _ => rfl
  par := ⟨_, rfl, rfl⟩
  sSelf := by decide +kernel
  sF := by decide +kernel
  sSuper := by decide +kernel
  sClass := by decide +kernel
  nocell := by decide +kernel
  co := rfl
  gen := rfl
  kind := rfl
  fne := by decide +kernel
  fdb := by decide +kernel
  top := by decide +kernel
theorem er_7 : ErStat2 pw ⟨"LogError", ["number", "reason"], "LogError.__init__", L2.defArgs (inr (top 8) 0), L2.defBody (inr (top 8) 0), L2.defScope (inr (top 8) 0)⟩ "number" "reason" where
  body := ⟨_, _, _, _, _, _, _, _, _, _, _, _, _, _, _, by decide +kernel, rfl⟩
  bind := fun _ _ _ _ _ _ _ _ _ _ => rfl
  par := ⟨_, rfl, rfl⟩
  sSelf := by decide +kernel
  sF := by decide +kernel
  sG := by decide +kernel
  sSuper := by decide +kernel
  sClass := by decide +kernel
  nocell := by decide +kernel
  co := rfl
  gen := rfl
  kind := rfl
  fne := by decide +kernel
  gne := by decide +kernel
  fgn := by decide +kernel
  gfn := by decide +kernel
  fdb := by decide +kernel
  gdb := by decide +kernel
  top := by decide +kernel
theorem er_8 : ErStat1 pw ⟨"CommandError", ["line"], "CommandError.__init__", L2.defArgs (inr (top 9) 0), L2.defBody (inr (top 9) 0), L2.defScope (inr (top 9) 0)⟩ "line" where
  body := ⟨_, _, _, _, _, _, _, _, _, _, by decide +kernel, rfl⟩
  bind := fun _ _ _ _ _ _ _ _ _ => rfl
  par := ⟨_, rfl, rfl⟩
  sSelf := by decide +kernel
  sF := by decide +kernel
  sSuper := by decide +kernel
  sClass := by decide +kernel
  nocell := by decide +kernel
  co := rfl
  gen := rfl
  kind := rfl
  fne := by decide +kernel
  fdb := by decide +kernel
  top := by decide +kernel
theorem er_stat : ∀ e ∈ pd.ers, ErStat pw e := by
  intro e m
  have m : e ∈ ers := m
  unfold ers at m
  simp only [List.mem_cons, List.not_mem_nil, or_false] at m
  rcases m with rfl | rfl | rfl | rfl | rfl | rfl | rfl | rfl | rfl
  · exact er_0
  · exact er_1
  · exact er_2
  · exact er_3
  · exact er_4
  · exact er_5
  · exact er_6
  · exact er_7
  · exact er_8
end K00
open PySem PySem.W PySem.Calls PyProof.Rows
theorem PySem.Challenge.cw_spacetrue_k00_errors_and_limits_holds : PySem.Challenge.rw_spacetrue_k00_errors_and_limits.Holds := by
  w_on; o_law
  refine HandSHeadRun.head_any (r := OpenLaw.row PySem.Challenge.rw_spacetrue_k00_errors_and_limits) (q := view (OpenLaw.row PySem.Challenge.rw_spacetrue_k00_errors_and_limits).prog [46]) (H := K00.hk) (ob := K00.ob) (M := 6000) (loose := K00.nms) (d := HandSHeadRun.topDef (OpenLaw.row PySem.Challenge.rw_spacetrue_k00_errors_and_limits).prog 46) (kwd := []) K00.ob_eq
    (by kernel_rfl) (fun s => by kernel_rfl) K00.run (by kernel_rfl) (by kernel_rfl) (by kernel_rfl) (by rfl) (by first | assumption | decide +kernel) (by decide +kernel) ⟨rfl, rfl, rfl, rfl, rfl, by decide +kernel⟩ ?hw ?hc
  case hw => w_witness2
  case hc =>
    refine SD.walkG (l := PySem.Challenge.rw_spacetrue_k00_errors_and_limits) (n := 63) (k := 4) (x := "script") rfl (by decide) (by kernel_rfl) ⟨rfl, by decide, by decide⟩ ?F
    intro w mg fa h Y G hmg0
    obtain ⟨K, KX, c⟩ := Y
    have hmg : mg ("law" : PySem.Str) = some (.ref fa) := by
      have e : (HandSHeadRun.topDef (OpenLaw.row PySem.Challenge.rw_spacetrue_k00_errors_and_limits).prog 46).name = ("law" : PySem.Str) := by kernel_rfl
      rw [← e]
      exact hmg0
    have g : SD.Gd K00.pd K00.pw w K mg h := ⟨KX, G, c, K00.er_stat, rfl⟩
    obtain ⟨fd, hm, hb, hF⟩ := K00.o_law g
    have e := hmg.symm.trans hm
    cases e
    exact ⟨K, fd, SD.gcOf K, K00.sp_law.sp, KX, rfl, fun s v => hb s [v] rfl, fun ns _ => ⟨ns, rfl, rfl, rfl⟩, hF⟩
