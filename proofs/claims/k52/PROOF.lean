import PyProof.Rows.All
import HandS.ForMost
import HandS.ForExc
import KE.DataFind
import HandS.ExcInit
import HandS.Deep
import HandS.TupAny
import HandS.TupMul
import HandS.IsInst
import HandS.ExcIs
import HandS.ExcField
import KE.GoesMore
import HandS.ReCall
import HandS.More
import HandS.Dict
import HandS.Small
import HandS.Ends
import HandS.HeadHook2
import HandS.HeadEnd
import HandS.WordsExc
import HandS.Head0
import HandS.Head1
import HandS.Head2
import PySem.Challenge.RW_namedcuts_k52_manners_checked
set_option Elab.async false
set_option linter.all false
set_option maxRecDepth 100000
/-! A small language for the program's own subset: data by value, lists owned by a name, draws. -/
namespace NC
open PySem PySem.Spec PyProof.Rows L2

inductive VD where
  | d (x : PyData)
  | sta
  | scr (n : Nat)
  | exc (c : Nat) (fs : List (Str × PyData))

inductive OpB where
  | add | sub | mul
inductive OpC where
  | eq | ne | lt | le | gt | ge | is | isnot | isin | notin
inductive Blt where
  | len | repr | list | tuple | min2

inductive Tg where
  | name (i : Nat)
  | pair (a b : Nat)
  | trip (a b c : Nat)

mutual
inductive E where
  | var (i : Nat)
  | peek (i : Nat)
  | cst (d : PyData)
  | glo (x : Str) (d : PyData)
  | tup (es : Es)
  | lst (es : Es)
  | dic
  | bin (o : OpB) (a b : E)
  | cmp (o : OpC) (a b : E)
  | and2 (a b : E)
  | or2 (a b : E)
  | one (a : E)
  | not1 (a : E)
  | ite (t : T) (a b : E)
  | sub (a i : E)
  | sli (a : E) (lo hi : O)
  | call (f : Nat) (es : Es)
  | blt (b : Blt) (es : Es)
  | isi (a : E) (t : String)
  | isx (i : Nat) (c : Nat)
  | fld (i : Nat) (f : Str)
  | draw (i : Nat) (m : E)
  | cnt (a h x : E)
  | comp (elt : E) (tg : Tg) (it : It) (t : TO)
inductive Es where
  | nil
  | cons (e : E) (r : Es)
inductive O where
  | non
  | som (e : E)
inductive T where
  | val (e : E)
  | cmp (o : OpC) (a b : E)
  | and2 (a b : T)
  | or2 (a b : T)
  | one (a : T)
  | not1 (a : T)
inductive TO where
  | non
  | som (t : T)
inductive It where
  | seq (e : E)
  | rng (e : E)
  | enum (e : E)
end

mutual
inductive S where
  | asg (tg : Tg) (e : E)
  | par (i j : Nat) (a b : E)
  | own (i : Nat) (e : E)
  | app (i : Nat) (e : E)
  | ins (i : Nat) (a e : E)
  | ifs (t : T) (a b : Ss)
  | forS (tg : Tg) (it : It) (b : Ss)
  | ret (e : E)
  | rse (c : Nat) (f : Str) (e : E)
  | tryS (b : Ss) (c i j : Nat)
  | frz (i : Nat)
inductive Ss where
  | nil
  | cons (s : S) (r : Ss)
end

/-- a slot: nothing, a value that nobody changes, a list of the frame's own -/
inductive Sl where
  | un
  | sh (v : VD)
  | ow (ds : List PyData)
abbrev Env := List Sl

abbrev Post := VD → Nat → Prop
abbrev XPost := Nat → List (Str × PyData) → Env → Nat → Prop
structure SEnds where
  nx : Env → Nat → Prop
  rt : Post
  bk : Env → Nat → Prop := fun _ _ => False
  ct : Env → Nat → Prop := fun _ _ => False

/-! ### what operations give -/
def okLen (n : Nat) : Bool := decide (n ≤ 16777216)
def addS : PyData → PyData → Option PyData
  | .int i, .int j => some (.int (i + j))
  | .tuple xs, .tuple ys => if okLen (xs.length + ys.length) then some (.tuple (xs ++ ys)) else none
  | .list xs, .list ys => if okLen (xs.length + ys.length) then some (.list (xs ++ ys)) else none
  | _, _ => none
def subS : PyData → PyData → Option PyData
  | .int i, .int j => some (.int (i - j))
  | _, _ => none
def mulS : PyData → PyData → Option PyData
  | .int i, .int j => if (decide (-(2 ^ 64) < i) && decide (i < 2 ^ 64)) || (decide (-(2 ^ 64) < j) && decide (j < 2 ^ 64)) then some (.int (i * j)) else none
  | .tuple xs, .int k => if decide (2 ≤ k) && decide (k ≤ 1000) && decide (xs.length ≤ 1000) then some (.tuple (List.replicate k.toNat xs).flatten) else none
  | _, _ => none
def binS : OpB → VD → VD → Option PyData
  | .add, .d x, .d y => addS x y
  | .sub, .d x, .d y => subS x y
  | .mul, .d x, .d y => mulS x y
  | _, _, _ => none
def eqS (x y : PyData) : Option Bool := if SeqAt.shaped x && SeqAt.shaped y then some (PyData.eqv x y) else none
def inS (x : PyData) (ys : List PyData) : Option Bool :=
  if SeqAt.shaped x && SeqAt.shaped (.tuple ys) then some (ys.any fun z => PyData.eqv z x) else none
def cmpS : OpC → VD → VD → Option Bool
  | .eq, .d (.dict []), .d (.str _) => some false
  | .eq, .d x, .d y => eqS x y
  | .ne, .d x, .d y => (eqS x y).map not
  | .lt, .d (.int i), .d (.int j) => some (decide (i < j))
  | .le, .d (.int i), .d (.int j) => some (decide (i ≤ j))
  | .gt, .d (.int i), .d (.int j) => some (decide (j < i))
  | .ge, .d (.int i), .d (.int j) => some (decide (j ≤ i))
  | .is, .d .none, .d .none => some true
  | .is, _, .d .none => some false
  | .isnot, .d .none, .d .none => some false
  | .isnot, _, .d .none => some true
  | .isin, .d x, .d (.tuple ys) => inS x ys
  | .isin, .d x, .d (.list ys) => inS x ys
  | .notin, .d x, .d (.tuple ys) => (inS x ys).map not
  | .notin, .d x, .d (.list ys) => (inS x ys).map not
  | _, _, _ => none
def atS : VD → VD → Option PyData
  | .d (.tuple xs), .d (.int i) => atI xs i
  | .d (.list xs), .d (.int i) => atI xs i
  | _, _ => none
def cutD (xs : List PyData) (lo hi : Option Int) : List PyData := (xs.drop (HT.sIx xs.length 0 lo)).take (HT.sIx xs.length xs.length hi - HT.sIx xs.length 0 lo)
def cutS : VD → Option Int → Option Int → Option PyData
  | .d (.tuple xs), lo, hi => some (.tuple (cutD xs lo hi))
  | .d (.list xs), lo, hi => some (.list (cutD xs lo hi))
  | _, _, _ => none
def bltS : Blt → List VD → Option PyData
  | .len, [.d (.tuple xs)] => some (.int xs.length)
  | .len, [.scr n] => some (.int n)
  | .len, [.d (.list xs)] => some (.int xs.length)
  | .len, [.d (.str x)] => if okLen x.length then some (.int x.length) else none
  | .repr, [.d x] => if x.showable && decide (x.depth ≤ 60) && okLen x.shown.length then some (.str x.shown) else none
  | .list, [.d (.tuple xs)] => some (.list xs)
  | .list, [.d (.list xs)] => some (.list xs)
  | .tuple, [.d (.tuple xs)] => some (.tuple xs)
  | .tuple, [.d (.list xs)] => some (.tuple xs)
  | .min2, [.d (.int i), .d (.int j)] => some (.int (if j < i then j else i))
  | _, _ => none
def isiS : PyData → String → Option Bool
  | .none, t => if t = "str" || t = "tuple" || t = "int" || t = "bool" || t = "list" || t = "dict" then some false else none
  | .bool _, t => if t = "bool" || t = "int" then some true else if t = "str" || t = "tuple" || t = "list" || t = "dict" then some false else none
  | .int _, t => if t = "int" then some true else if t = "str" || t = "tuple" || t = "bool" || t = "list" || t = "dict" then some false else none
  | .str _, t => if t = "str" then some true else if t = "int" || t = "tuple" || t = "bool" || t = "list" || t = "dict" then some false else none
  | .list _, t => if t = "list" then some true else if t = "int" || t = "tuple" || t = "bool" || t = "str" || t = "dict" then some false else none
  | .tuple _, t => if t = "tuple" then some true else if t = "int" || t = "list" || t = "bool" || t = "str" || t = "dict" then some false else none
  | .dict _, t => if t = "dict" then some true else if t = "int" || t = "list" || t = "bool" || t = "str" || t = "tuple" then some false else none
def enumD : Nat → List PyData → List PyData
  | _, [] => []
  | n, x :: xs => .tuple [.int n, x] :: enumD (n + 1) xs
def itS : It → VD → Option (List PyData)
  | .seq _, .d (.tuple xs) => some xs
  | .seq _, .d (.list xs) => some xs
  | .rng _, .d (.int n) => if decide (-(2 ^ 62) ≤ n) && decide (n < 2 ^ 62) then some ((List.range n.toNat).map fun k => .int (k : Nat)) else none
  | .enum _, .d (.tuple xs) => some (enumD 0 xs)
  | .enum _, .d (.list xs) => some (enumD 0 xs)
  | _, _ => none
def asgT : Tg → VD → Env → Option Env
  | .name i, v, δ => some (δ.set i (.sh v))
  | .pair i j, .d (.tuple [x, y]), δ => some ((δ.set i (.sh (.d x))).set j (.sh (.d y)))
  | .trip i j k, .d (.tuple [x, y, z]), δ => some (((δ.set i (.sh (.d x))).set j (.sh (.d y))).set k (.sh (.d z)))
  | _, _, _ => none
def Tg.slots : Tg → List Nat
  | .name i => [i]
  | .pair i j => [i, j]
  | .trip i j k => [i, j, k]
def wipeD (δ : Env) : List Nat → Env
  | [] => δ
  | v :: vs => (wipeD δ vs).set v .un
def frzS : Nat → Env → Option Env
  | i, δ => match δ[i]? with
    | some (.ow ds) => some (δ.set i (.sh (.d (.list ds))))
    | _ => none

/-- what a call means: a function, its arguments, the draws so far, the wishes -/
abbrev Calls := Nat → List VD → Nat → Post → (Nat → List (Str × PyData) → Nat → Prop) → Prop

def allD : List VD → Option (List PyData)
  | [] => some []
  | .d x :: r => (allD r).map (x :: ·)
  | _ :: _ => none

/-- the items one after the other -/
def forW (f : PyData → Env → Nat → SEnds → Prop) : List PyData → Env → Nat → SEnds → Prop
  | [], δ, g, D => D.nx δ g
  | x :: r, δ, g, D => f x δ g { nx := fun δ' g' => forW f r δ' g' D, rt := D.rt, bk := D.nx, ct := fun δ' g' => forW f r δ' g' D }
def compW (f : PyData → Nat → (Option PyData → Nat → Prop) → Prop) : List PyData → List PyData → Nat → (List PyData → Nat → Prop) → Prop
  | [], acc, g, Q => Q acc g
  | x :: r, acc, g, Q => f x g fun o g' => match o with
    | none => compW f r acc g' Q
    | some y => acc.length < 16777216 ∧ compW f r (acc ++ [y]) g' Q

section
variable (Φ : Calls) (sub : Nat → Nat → Bool)
mutual
def wE : E → Env → Nat → Post → XPost → Prop
  | .var i, δ, g, Q, _ => ∃ v, δ[i]? = some (.sh v) ∧ Q v g
  | .peek i, δ, g, Q, _ => ∃ ds, δ[i]? = some (.ow ds) ∧ Q (.d (.list ds)) g
  | .cst d, _, g, Q, _ => Q (.d d) g
  | .glo _ d, _, g, Q, _ => Q (.d d) g
  | .tup es, δ, g, Q, R => wEs es δ g (fun vs g' => ∃ xs, allD vs = some xs ∧ okLen xs.length = true ∧ Q (.d (.tuple xs)) g') R
  | .lst es, δ, g, Q, R => wEs es δ g (fun vs g' => ∃ xs, allD vs = some xs ∧ okLen xs.length = true ∧ Q (.d (.list xs)) g') R
  | .dic, _, g, Q, _ => Q (.d (.dict [])) g
  | .bin o a b, δ, g, Q, R => wE a δ g (fun x g1 => wE b δ g1 (fun y g2 => ∃ z, binS o x y = some z ∧ Q (.d z) g2) R) R
  | .cmp o a b, δ, g, Q, R => wE a δ g (fun x g1 => wE b δ g1 (fun y g2 => ∃ z, cmpS o x y = some z ∧ Q (.d (.bool z)) g2) R) R
  | .and2 a b, δ, g, Q, R => wE a δ g (fun x g1 => ∃ c, x = .d (.bool c) ∧ if c = true then wE b δ g1 Q R else Q (.d (.bool false)) g1) R
  | .or2 a b, δ, g, Q, R => wE a δ g (fun x g1 => ∃ c, x = .d (.bool c) ∧ if c = true then Q (.d (.bool true)) g1 else wE b δ g1 Q R) R
  | .one a, δ, g, Q, R => wE a δ g Q R
  | .not1 a, δ, g, Q, R => wE a δ g (fun x g1 => ∃ c, x = .d (.bool c) ∧ Q (.d (.bool (!c))) g1) R
  | .ite t a b, δ, g, Q, R => wT t δ g (fun c g1 => if c = true then wE a δ g1 Q R else wE b δ g1 Q R) R
  | .sub a i, δ, g, Q, R => wE a δ g (fun x g1 => wE i δ g1 (fun y g2 => ∃ z, atS x y = some z ∧ Q (.d z) g2) R) R
  | .sli a lo hi, δ, g, Q, R => wE a δ g (fun x g1 => wO lo δ g1 (fun l g2 => wO hi δ g2 (fun h g3 => ∃ z, cutS x l h = some z ∧ Q (.d z) g3) R) R) R
  | .call f es, δ, g, Q, R => wEs es δ g (fun vs g' => Φ f vs g' Q (fun c fs g2 => R c fs δ g2)) R
  | .blt b es, δ, g, Q, R => wEs es δ g (fun vs g' => ∃ z, bltS b vs = some z ∧ Q (.d z) g') R
  | .isi a t, δ, g, Q, R => wE a δ g (fun x g1 => ∃ y z, x = .d y ∧ isiS y t = some z ∧ Q (.d (.bool z)) g1) R
  | .isx i c, δ, g, Q, _ => ∃ c' fs, δ[i]? = some (.sh (.exc c' fs)) ∧ Q (.d (.bool (sub c' c))) g
  | .fld i f, δ, g, Q, _ => ∃ c' fs x, δ[i]? = some (.sh (.exc c' fs)) ∧ fs.lookup f = some x ∧ Q (.d x) g
  | .draw i m, δ, g, Q, R => δ[i]? = some (.sh .sta) ∧ wE m δ g (fun x g1 => ∃ k : Int, x = .d (.int k) ∧ 0 < k ∧ k < 1073741824 ∧ g1 < 2 ^ 60 ∧ ∀ n, 0 ≤ n → n < k → Q (.d (.int n)) (g1 + 1)) R
  | .cnt a h x, δ, g, Q, R => wE a δ g (fun y g1 => wE h δ g1 (fun k g2 => ∃ (xs : List PyData) (i : Int), y = .d (.tuple xs) ∧ k = .d (.int i) ∧ 0 ≤ i ∧ i < xs.length ∧ PyData.plainAll (xs.take i.toNat) = true ∧ wE x δ g2 (fun z g3 => ∃ d : PyData, z = .d d ∧ d.plain = true ∧ d.depth ≤ 60 ∧ Q (.d (.int (((xs.take i.toNat).countP fun z => PyData.eqv z d : Nat) : Int))) g3) R) R) R
  | .comp elt tg it t, δ, g, Q, R => wIt it δ g (fun xs g' =>
      compW (fun x g1 P => ∃ δ1, asgT tg (.d x) (wipeD δ tg.slots) = some δ1 ∧ wTO t δ1 g1 (fun c g2 => if c = true then wE elt δ1 g2 (fun y g3 => ∃ z, y = .d z ∧ P (some z) g3) (fun _ _ _ _ => False) else P none g2) (fun _ _ _ _ => False)) xs [] g'
        fun ys g2 => Q (.d (.list ys)) g2) R
def wEs : Es → Env → Nat → (List VD → Nat → Prop) → XPost → Prop
  | .nil, _, g, Q, _ => Q [] g
  | .cons e r, δ, g, Q, R => wE e δ g (fun x g1 => wEs r δ g1 (fun xs g2 => Q (x :: xs) g2) R) R
def wO : O → Env → Nat → (Option Int → Nat → Prop) → XPost → Prop
  | .non, _, g, Q, _ => Q none g
  | .som e, δ, g, Q, R => wE e δ g (fun x g1 => ∃ i, x = .d (.int i) ∧ Q (some i) g1) R
def wT : T → Env → Nat → (Bool → Nat → Prop) → XPost → Prop
  | .val e, δ, g, Q, R => wE e δ g (fun x g1 => ∃ c, x = .d (.bool c) ∧ Q c g1) R
  | .cmp o a b, δ, g, Q, R => wE a δ g (fun x g1 => wE b δ g1 (fun y g2 => ∃ z, cmpS o x y = some z ∧ Q z g2) R) R
  | .and2 a b, δ, g, Q, R => wT a δ g (fun c g1 => if c = true then wT b δ g1 Q R else Q false g1) R
  | .or2 a b, δ, g, Q, R => wT a δ g (fun c g1 => if c = true then Q true g1 else wT b δ g1 Q R) R
  | .one a, δ, g, Q, R => wT a δ g Q R
  | .not1 a, δ, g, Q, R => wT a δ g (fun c g1 => Q (!c) g1) R
def wTO : TO → Env → Nat → (Bool → Nat → Prop) → XPost → Prop
  | .non, _, g, Q, _ => Q true g
  | .som t, δ, g, Q, R => wT t δ g Q R
def wIt : It → Env → Nat → (List PyData → Nat → Prop) → XPost → Prop
  | .seq e, δ, g, Q, R => wE e δ g (fun x g1 => ∃ xs, itS (.seq e) x = some xs ∧ Q xs g1) R
  | .rng e, δ, g, Q, R => wE e δ g (fun x g1 => ∃ xs, itS (.rng e) x = some xs ∧ Q xs g1) R
  | .enum e, δ, g, Q, R => wE e δ g (fun x g1 => ∃ xs, itS (.enum e) x = some xs ∧ Q xs g1) R
end

/-- an exception of an expression leaves the names as they are -/
def atX (R : XPost) (δ : Env) : XPost := fun c fs _ g => R c fs δ g
mutual
def wS : S → Env → Nat → SEnds → XPost → Prop
  | .asg tg e, δ, g, D, R => wE Φ sub e δ g (fun v g' => ∃ δ', asgT tg v δ = some δ' ∧ D.nx δ' g') (atX R δ)
  | .par i j a b, δ, g, D, R => wE Φ sub a δ g (fun x g1 => wE Φ sub b δ g1 (fun y g2 => D.nx ((δ.set i (.sh x)).set j (.sh y)) g2) (atX R δ)) (atX R δ)
  | .own i e, δ, g, D, R => wE Φ sub e δ g (fun v g' => ∃ ds, v = .d (.list ds) ∧ D.nx (δ.set i (.ow ds)) g') (atX R δ)
  | .app i e, δ, g, D, R => ∃ ds, δ[i]? = some (.ow ds) ∧ wE Φ sub e δ g (fun v g' => ∃ x, v = .d x ∧ ds.length < 16777216 ∧ D.nx (δ.set i (.ow (ds ++ [x]))) g') (atX R δ)
  | .ins i a e, δ, g, D, R => ∃ ds, δ[i]? = some (.ow ds) ∧ wE Φ sub a δ g (fun k g1 => wE Φ sub e δ g1 (fun v g' => ∃ n x, k = .d (.int n) ∧ v = .d x ∧ 0 ≤ n ∧ n ≤ ds.length ∧ ds.length < 1000000 ∧ D.nx (δ.set i (.ow (ds.take n.toNat ++ x :: ds.drop n.toNat))) g') (atX R δ)) (atX R δ)
  | .ifs t a b, δ, g, D, R => wT Φ sub t δ g (fun c g1 => if c = true then wSs a δ g1 D R else wSs b δ g1 D R) (atX R δ)
  | .forS tg it b, δ, g, D, R => wIt Φ sub it δ g (fun xs g' => forW (fun x δ1 g1 D1 => ∃ δ2, asgT tg (.d x) δ1 = some δ2 ∧ wSs b δ2 g1 D1 R) xs δ g' D) (atX R δ)
  | .ret e, δ, g, D, R => wE Φ sub e δ g D.rt (atX R δ)
  | .rse c f e, δ, g, _, R => wE Φ sub e δ g (fun v g' => ∃ x, v = .d x ∧ R c [(f, x)] δ g') (atX R δ)
  | .tryS b c i j, δ, g, D, R => wSs b δ g D (fun c' fs δ' g' => if sub c' c = true then D.nx ((δ'.set j (.sh (.exc c' fs))).set i .un) g' else R c' fs δ' g')
  | .frz i, δ, g, D, _ => ∃ δ', frzS i δ = some δ' ∧ D.nx δ' g
def wSs : Ss → Env → Nat → SEnds → XPost → Prop
  | .nil, δ, g, D, _ => D.nx δ g
  | .cons s r, δ, g, D, R => wS s δ g { D with nx := fun δ' g' => wSs r δ' g' D R } R
end
end

structure Fn where
  np : Nat
  ns : Nat
  body : Ss
/-- calls to the depth k -/
def calls (fns : List Fn) (sub : Nat → Nat → Bool) : Nat → Calls
  | 0 => fun _ _ _ _ _ => False
  | k + 1 => fun f vs g Q R => ∃ fn, fns[f]? = some fn ∧ vs.length = fn.np ∧
      wSs (calls fns sub k) sub fn.body (vs.map .sh ++ List.replicate (fn.ns - fn.np) .un) g { nx := fun _ g' => Q (.d .none) g', rt := Q } (fun c fs _ g' => R c fs g')
end NC

set_option Elab.async false
set_option linter.all false
set_option maxRecDepth 100000
namespace NC
open PySem PySem.Spec PyProof.Rows L2
/-! ### the wishes may be weakened -/
def CMono (Φ : Calls) : Prop := ∀ f vs g (Q Q' : Post) (R R' : Nat → List (Str × PyData) → Nat → Prop), (∀ v g, Q v g → Q' v g) → (∀ c fs g, R c fs g → R' c fs g) → Φ f vs g Q R → Φ f vs g Q' R'
theorem compW_mono {f : PyData → Nat → (Option PyData → Nat → Prop) → Prop} (hf : ∀ x g P P', (∀ o g, P o g → P' o g) → f x g P → f x g P') : ∀ xs acc g (Q Q' : List PyData → Nat → Prop), (∀ ys g, Q ys g → Q' ys g) → compW f xs acc g Q → compW f xs acc g Q'
  | [], acc, g, Q, Q', h, w => h _ _ w
  | x :: r, acc, g, Q, Q', h, w => hf x g _ _ (fun o g' w' => by
      cases o with
      | none => exact compW_mono hf r acc g' Q Q' h w'
      | some y => exact ⟨w'.1, compW_mono hf r _ g' Q Q' h w'.2⟩) w
theorem ex_mono {α : Sort _} {p q : α → Prop} (h : ∀ x, p x → q x) : (∃ x, p x) → ∃ x, q x := fun ⟨x, a⟩ => ⟨x, h x a⟩
theorem ite_mono {c : Prop} [Decidable c] {a b a' b' : Prop} (h1 : a → a') (h2 : b → b') : (if c then a else b) → if c then a' else b' := by
  by_cases h : c
  · rw [if_pos h, if_pos h]; exact h1
  · rw [if_neg h, if_neg h]; exact h2
section
variable {Φ : Calls} {sub : Nat → Nat → Bool} (hΦ : CMono Φ)
include hΦ
mutual
theorem wE_mono : ∀ (e : E) (δ : Env) (g : Nat) (Q Q' : Post) (R R' : XPost), (∀ v g, Q v g → Q' v g) → (∀ c fs δ g, R c fs δ g → R' c fs δ g) → wE Φ sub e δ g Q R → wE Φ sub e δ g Q' R'
  | .var i, δ, g, Q, Q', R, R', h, k => by unfold wE; exact ex_mono fun v a => ⟨a.1, h _ _ a.2⟩
  | .peek i, δ, g, Q, Q', R, R', h, k => by unfold wE; exact ex_mono fun v a => ⟨a.1, h _ _ a.2⟩
  | .cst d, δ, g, Q, Q', R, R', h, k => by unfold wE; exact h _ _
  | .glo _ d, δ, g, Q, Q', R, R', h, k => by unfold wE; exact h _ _
  | .tup es, δ, g, Q, Q', R, R', h, k => by unfold wE; exact wEs_mono es δ g _ _ R R' (fun vs g' => ex_mono fun xs a => ⟨a.1, a.2.1, h _ _ a.2.2⟩) k
  | .lst es, δ, g, Q, Q', R, R', h, k => by unfold wE; exact wEs_mono es δ g _ _ R R' (fun vs g' => ex_mono fun xs a => ⟨a.1, a.2.1, h _ _ a.2.2⟩) k
  | .dic, δ, g, Q, Q', R, R', h, k => by unfold wE; exact h _ _
  | .bin o a b, δ, g, Q, Q', R, R', h, k => by
    unfold wE
    exact wE_mono a δ g _ _ R R' (fun x g1 => wE_mono b δ g1 _ _ R R' (fun y g2 => ex_mono fun z a => ⟨a.1, h _ _ a.2⟩) k) k
  | .cmp o a b, δ, g, Q, Q', R, R', h, k => by
    unfold wE
    exact wE_mono a δ g _ _ R R' (fun x g1 => wE_mono b δ g1 _ _ R R' (fun y g2 => ex_mono fun z a => ⟨a.1, h _ _ a.2⟩) k) k
  | .and2 a b, δ, g, Q, Q', R, R', h, k => by
    unfold wE
    exact wE_mono a δ g _ _ R R' (fun x g1 => ex_mono fun c a => ⟨a.1, ite_mono (wE_mono b δ g1 Q Q' R R' h k) (h _ _) a.2⟩) k
  | .or2 a b, δ, g, Q, Q', R, R', h, k => by
    unfold wE
    exact wE_mono a δ g _ _ R R' (fun x g1 => ex_mono fun c a => ⟨a.1, ite_mono (h _ _) (wE_mono b δ g1 Q Q' R R' h k) a.2⟩) k
  | .one a, δ, g, Q, Q', R, R', h, k => by unfold wE; exact wE_mono a δ g Q Q' R R' h k
  | .not1 a, δ, g, Q, Q', R, R', h, k => by unfold wE; exact wE_mono a δ g _ _ R R' (fun x g1 => ex_mono fun c a => ⟨a.1, h _ _ a.2⟩) k
  | .ite t a b, δ, g, Q, Q', R, R', h, k => by
    unfold wE
    exact wT_mono t δ g _ _ R R' (fun c g1 => ite_mono (wE_mono a δ g1 Q Q' R R' h k) (wE_mono b δ g1 Q Q' R R' h k)) k
  | .sub a i, δ, g, Q, Q', R, R', h, k => by
    unfold wE
    exact wE_mono a δ g _ _ R R' (fun x g1 => wE_mono i δ g1 _ _ R R' (fun y g2 => ex_mono fun z a => ⟨a.1, h _ _ a.2⟩) k) k
  | .sli a lo hi, δ, g, Q, Q', R, R', h, k => by
    unfold wE
    exact wE_mono a δ g _ _ R R' (fun x g1 => wO_mono lo δ g1 _ _ R R' (fun l g2 => wO_mono hi δ g2 _ _ R R' (fun u g3 => ex_mono fun z a => ⟨a.1, h _ _ a.2⟩) k) k) k
  | .call f es, δ, g, Q, Q', R, R', h, k => by
    unfold wE
    exact wEs_mono es δ g _ _ R R' (fun vs g' => hΦ f vs g' Q Q' _ _ h fun c fs g2 => k _ _ _ _) k
  | .blt b es, δ, g, Q, Q', R, R', h, k => by unfold wE; exact wEs_mono es δ g _ _ R R' (fun vs g' => ex_mono fun z a => ⟨a.1, h _ _ a.2⟩) k
  | .isi a t, δ, g, Q, Q', R, R', h, k => by
    unfold wE
    exact wE_mono a δ g _ _ R R' (fun x g1 => ex_mono fun y => ex_mono fun z a => ⟨a.1, a.2.1, h _ _ a.2.2⟩) k
  | .isx i c, δ, g, Q, Q', R, R', h, k => by unfold wE; exact ex_mono fun c' => ex_mono fun fs a => ⟨a.1, h _ _ a.2⟩
  | .fld i f, δ, g, Q, Q', R, R', h, k => by unfold wE; exact ex_mono fun c' => ex_mono fun fs => ex_mono fun x a => ⟨a.1, a.2.1, h _ _ a.2.2⟩
  | .draw i m, δ, g, Q, Q', R, R', h, k => by
    unfold wE
    exact fun a => ⟨a.1, wE_mono m δ g _ _ R R' (fun x g1 => ex_mono fun n b => ⟨b.1, b.2.1, b.2.2.1, b.2.2.2.1, fun j h1 h2 => h _ _ (b.2.2.2.2 j h1 h2)⟩) k a.2⟩
  | .cnt a i x, δ, g, Q, Q', R, R', h, k => by
    unfold wE
    exact wE_mono a δ g _ _ R R' (fun y g1 => wE_mono i δ g1 _ _ R R' (fun l g2 => ex_mono fun xs => ex_mono fun n b => ⟨b.1, b.2.1, b.2.2.1, b.2.2.2.1, b.2.2.2.2.1, wE_mono x δ g2 _ _ R R' (fun z g3 => ex_mono fun d c => ⟨c.1, c.2.1, c.2.2.1, h _ _ c.2.2.2⟩) k b.2.2.2.2.2⟩) k) k
  | .comp elt tg it t, δ, g, Q, Q', R, R', h, k => by
    unfold wE
    refine wIt_mono it δ g _ _ R R' (fun xs g' => compW_mono (fun x g1 P P' hp => ex_mono fun δ1 a => ⟨a.1, wTO_mono t δ1 g1 _ _ _ _ (fun c g2 => ite_mono (wE_mono elt δ1 g2 _ _ _ _ (fun y g3 => ex_mono fun z b => ⟨b.1, hp _ _ b.2⟩) (fun _ _ _ _ z => z)) (hp _ _)) (fun _ _ _ _ z => z) a.2⟩) xs [] g' _ _ fun ys g2 => h _ _) k
theorem wEs_mono : ∀ (es : Es) (δ : Env) (g : Nat) (Q Q' : List VD → Nat → Prop) (R R' : XPost), (∀ v g, Q v g → Q' v g) → (∀ c fs δ g, R c fs δ g → R' c fs δ g) → wEs Φ sub es δ g Q R → wEs Φ sub es δ g Q' R'
  | .nil, δ, g, Q, Q', R, R', h, k => by unfold wEs; exact h _ _
  | .cons e r, δ, g, Q, Q', R, R', h, k => by
    unfold wEs
    exact wE_mono e δ g _ _ R R' (fun x g1 => wEs_mono r δ g1 _ _ R R' (fun xs g2 => h _ _) k) k
theorem wO_mono : ∀ (o : O) (δ : Env) (g : Nat) (Q Q' : Option Int → Nat → Prop) (R R' : XPost), (∀ v g, Q v g → Q' v g) → (∀ c fs δ g, R c fs δ g → R' c fs δ g) → wO Φ sub o δ g Q R → wO Φ sub o δ g Q' R'
  | .non, δ, g, Q, Q', R, R', h, k => by unfold wO; exact h _ _
  | .som e, δ, g, Q, Q', R, R', h, k => by unfold wO; exact wE_mono e δ g _ _ R R' (fun x g1 => ex_mono fun i a => ⟨a.1, h _ _ a.2⟩) k
theorem wT_mono : ∀ (t : T) (δ : Env) (g : Nat) (Q Q' : Bool → Nat → Prop) (R R' : XPost), (∀ v g, Q v g → Q' v g) → (∀ c fs δ g, R c fs δ g → R' c fs δ g) → wT Φ sub t δ g Q R → wT Φ sub t δ g Q' R'
  | .val e, δ, g, Q, Q', R, R', h, k => by unfold wT; exact wE_mono e δ g _ _ R R' (fun x g1 => ex_mono fun c a => ⟨a.1, h _ _ a.2⟩) k
  | .cmp o a b, δ, g, Q, Q', R, R', h, k => by
    unfold wT
    exact wE_mono a δ g _ _ R R' (fun x g1 => wE_mono b δ g1 _ _ R R' (fun y g2 => ex_mono fun z a => ⟨a.1, h _ _ a.2⟩) k) k
  | .and2 a b, δ, g, Q, Q', R, R', h, k => by unfold wT; exact wT_mono a δ g _ _ R R' (fun c g1 => ite_mono (wT_mono b δ g1 Q Q' R R' h k) (h _ _)) k
  | .or2 a b, δ, g, Q, Q', R, R', h, k => by unfold wT; exact wT_mono a δ g _ _ R R' (fun c g1 => ite_mono (h _ _) (wT_mono b δ g1 Q Q' R R' h k)) k
  | .one a, δ, g, Q, Q', R, R', h, k => by unfold wT; exact wT_mono a δ g Q Q' R R' h k
  | .not1 a, δ, g, Q, Q', R, R', h, k => by unfold wT; exact wT_mono a δ g _ _ R R' (fun c g1 => h _ _) k
theorem wTO_mono : ∀ (t : TO) (δ : Env) (g : Nat) (Q Q' : Bool → Nat → Prop) (R R' : XPost), (∀ v g, Q v g → Q' v g) → (∀ c fs δ g, R c fs δ g → R' c fs δ g) → wTO Φ sub t δ g Q R → wTO Φ sub t δ g Q' R'
  | .non, δ, g, Q, Q', R, R', h, k => by unfold wTO; exact h _ _
  | .som t, δ, g, Q, Q', R, R', h, k => by unfold wTO; exact wT_mono t δ g Q Q' R R' h k
theorem wIt_mono : ∀ (it : It) (δ : Env) (g : Nat) (Q Q' : List PyData → Nat → Prop) (R R' : XPost), (∀ v g, Q v g → Q' v g) → (∀ c fs δ g, R c fs δ g → R' c fs δ g) → wIt Φ sub it δ g Q R → wIt Φ sub it δ g Q' R'
  | .seq e, δ, g, Q, Q', R, R', h, k => by unfold wIt; exact wE_mono e δ g _ _ R R' (fun x g1 => ex_mono fun xs a => ⟨a.1, h _ _ a.2⟩) k
  | .rng e, δ, g, Q, Q', R, R', h, k => by unfold wIt; exact wE_mono e δ g _ _ R R' (fun x g1 => ex_mono fun xs a => ⟨a.1, h _ _ a.2⟩) k
  | .enum e, δ, g, Q, Q', R, R', h, k => by unfold wIt; exact wE_mono e δ g _ _ R R' (fun x g1 => ex_mono fun xs a => ⟨a.1, h _ _ a.2⟩) k
end
structure SLe (D D' : SEnds) : Prop where
  nx : ∀ δ g, D.nx δ g → D'.nx δ g
  rt : ∀ v g, D.rt v g → D'.rt v g
  bk : ∀ δ g, D.bk δ g → D'.bk δ g
  ct : ∀ δ g, D.ct δ g → D'.ct δ g
omit hΦ in
theorem forW_mono {f f' : PyData → Env → Nat → SEnds → Prop} (hf : ∀ x δ g D D', SLe D D' → f x δ g D → f' x δ g D') : ∀ xs δ g D D', SLe D D' → forW f xs δ g D → forW f' xs δ g D'
  | [], δ, g, D, D', h, w => h.nx _ _ w
  | x :: r, δ, g, D, D', h, w => hf x δ g { nx := fun δ' g' => forW f r δ' g' D, rt := D.rt, bk := D.nx, ct := fun δ' g' => forW f r δ' g' D } { nx := fun δ' g' => forW f' r δ' g' D', rt := D'.rt, bk := D'.nx, ct := fun δ' g' => forW f' r δ' g' D' }
      ⟨fun δ' g' => forW_mono hf r δ' g' D D' h, h.rt, h.nx, fun δ' g' => forW_mono hf r δ' g' D D' h⟩ w
mutual
theorem wS_mono : ∀ (s : S) (δ : Env) (g : Nat) (D D' : SEnds) (R R' : XPost), SLe D D' → (∀ c fs δ g, R c fs δ g → R' c fs δ g) → wS Φ sub s δ g D R → wS Φ sub s δ g D' R'
  | .asg tg e, δ, g, D, D', R, R', h, k => by unfold wS; exact wE_mono hΦ e δ g _ _ (atX R δ) (atX R' δ) (fun v g' => ex_mono fun δ' a => ⟨a.1, h.nx _ _ a.2⟩) (fun c fs _ g => k c fs δ g)
  | .par i j a b, δ, g, D, D', R, R', h, k => by unfold wS; exact wE_mono hΦ a δ g _ _ (atX R δ) (atX R' δ) (fun x g1 => wE_mono hΦ b δ g1 _ _ (atX R δ) (atX R' δ) (fun y g2 => h.nx _ _) (fun c fs _ g => k c fs δ g)) (fun c fs _ g => k c fs δ g)
  | .own i e, δ, g, D, D', R, R', h, k => by unfold wS; exact wE_mono hΦ e δ g _ _ (atX R δ) (atX R' δ) (fun v g' => ex_mono fun ds a => ⟨a.1, h.nx _ _ a.2⟩) (fun c fs _ g => k c fs δ g)
  | .app i e, δ, g, D, D', R, R', h, k => by
    unfold wS
    exact ex_mono fun ds a => ⟨a.1, wE_mono hΦ e δ g _ _ (atX R δ) (atX R' δ) (fun v g' => ex_mono fun x b => ⟨b.1, b.2.1, h.nx _ _ b.2.2⟩) (fun c fs _ g => k c fs δ g) a.2⟩
  | .ins i x e, δ, g, D, D', R, R', h, k => by
    unfold wS
    exact ex_mono fun ds a => ⟨a.1, wE_mono hΦ x δ g _ _ (atX R δ) (atX R' δ) (fun l g1 => wE_mono hΦ e δ g1 _ _ (atX R δ) (atX R' δ) (fun v g' => ex_mono fun n => ex_mono fun y b => ⟨b.1, b.2.1, b.2.2.1, b.2.2.2.1, b.2.2.2.2.1, h.nx _ _ b.2.2.2.2.2⟩) (fun c fs _ g => k c fs δ g)) (fun c fs _ g => k c fs δ g) a.2⟩
  | .ifs t a b, δ, g, D, D', R, R', h, k => by
    unfold wS
    exact wT_mono hΦ t δ g _ _ (atX R δ) (atX R' δ) (fun c g1 => ite_mono (wSs_mono a δ g1 D D' R R' h k) (wSs_mono b δ g1 D D' R R' h k)) (fun c fs _ g => k c fs δ g)
  | .forS tg it b, δ, g, D, D', R, R', h, k => by
    unfold wS
    exact wIt_mono hΦ it δ g _ _ (atX R δ) (atX R' δ) (fun xs g' => forW_mono (fun x δ1 g1 D1 D2 hd => ex_mono fun δ2 a => ⟨a.1, wSs_mono b δ2 g1 D1 D2 R R' hd k a.2⟩) xs δ g' D D' h) (fun c fs _ g => k c fs δ g)
  | .ret e, δ, g, D, D', R, R', h, k => by unfold wS; exact wE_mono hΦ e δ g _ _ (atX R δ) (atX R' δ) h.rt (fun c fs _ g => k c fs δ g)
  | .rse c f e, δ, g, D, D', R, R', h, k => by unfold wS; exact wE_mono hΦ e δ g _ _ (atX R δ) (atX R' δ) (fun v g' => ex_mono fun x a => ⟨a.1, k _ _ _ _ a.2⟩) (fun c fs _ g => k c fs δ g)
  | .tryS b c i j, δ, g, D, D', R, R', h, k => by
    unfold wS
    exact wSs_mono b δ g D D' _ _ h fun c' fs δ' g' => ite_mono (h.nx _ _) (k _ _ _ _)
  | .frz i, δ, g, D, D', R, R', h, k => by unfold wS; exact ex_mono fun δ' a => ⟨a.1, h.nx _ _ a.2⟩
theorem wSs_mono : ∀ (s : Ss) (δ : Env) (g : Nat) (D D' : SEnds) (R R' : XPost), SLe D D' → (∀ c fs δ g, R c fs δ g → R' c fs δ g) → wSs Φ sub s δ g D R → wSs Φ sub s δ g D' R'
  | .nil, δ, g, D, D', R, R', h, k => by unfold wSs; exact h.nx _ _
  | .cons s r, δ, g, D, D', R, R', h, k => by
    unfold wSs
    exact wS_mono s δ g _ _ R R' ⟨fun δ' g' => wSs_mono r δ' g' D D' R R' h k, h.rt, h.bk, h.ct⟩ k
end
end
theorem calls_mono (fns : List Fn) (sub : Nat → Nat → Bool) : ∀ k, CMono (calls fns sub k)
  | 0 => fun _ _ _ _ _ _ _ _ _ h => h
  | k + 1 => fun f vs g Q Q' R R' h h' ⟨fn, e, l, w⟩ => ⟨fn, e, l, wSs_mono (calls_mono fns sub k) fn.body _ _ { nx := fun _ g' => Q (.d .none) g', rt := Q } _ (fun c fs _ g' => R c fs g') _ ⟨fun _ _ => h _ _, h, fun _ _ z => z, fun _ _ z => z⟩ (fun c fs _ g => h' c fs g) w⟩
end NC

set_option Elab.async false
set_option linter.all false
set_option maxRecDepth 100000
namespace NC
open PySem PySem.Spec PyProof.Rows L2
/-! ### how values stand for data -/
abbrev Fz := Addr → Prop
mutual
inductive RP (K : PySem.W.Frag) (F : Fz) (H : Hp) : V → PyData → Prop
  | non : RP K F H .non .none
  | bl (b : Bool) : RP K F H (.bl b) (.bool b)
  | int (i : Int) : RP K F H (.int i) (.int i)
  | str (x : Str) : RP K F H (.str x) (.str x)
  | lst {a : Addr} {xs : List V} {ds : List PyData} : F a → H a = some (.lst xs) → RPs K F H xs ds → RP K F H (.ref a) (.list ds)
  | tup {a : Addr} {xs : List V} {ds : List PyData} : SqT K H a xs → RPs K F H xs ds → RP K F H (.ref a) (.tuple ds)
  | dic {a : Addr} : F a → H a = some (.dK []) → RP K F H (.ref a) (.dict [])
inductive RPs (K : PySem.W.Frag) (F : Fz) (H : Hp) : List V → List PyData → Prop
  | nil : RPs K F H [] []
  | cons {v : V} {vs : List V} {d : PyData} {ds : List PyData} : RP K F H v d → RPs K F H vs ds → RPs K F H (v :: vs) (d :: ds)
end
/-- what stays: the frozen things, tuples, known things -/
structure Ext (F : Fz) (H : Hp) (F' : Fz) (H' : Hp) : Prop where
  sub : ∀ a, F a → F' a
  eq : ∀ a, F a → H' a = H a
  tup : ∀ a xs, H a = some (.tup xs) → H' a = some (.tup xs)
  frz : ∀ a o u, H a = some (.frz o u) → H' a = some (.frz o u)
theorem Ext.refl {F : Fz} {H : Hp} : Ext F H F H := ⟨fun _ h => h, fun _ _ => rfl, fun _ _ h => h, fun _ _ _ h => h⟩
theorem Ext.trans {F F1 F2 : Fz} {H H1 H2 : Hp} (a : Ext F H F1 H1) (b : Ext F1 H1 F2 H2) : Ext F H F2 H2 :=
  ⟨fun c h => b.sub c (a.sub c h), fun c h => (b.eq c (a.sub c h)).trans (a.eq c h), fun c xs h => b.tup c xs (a.tup c xs h), fun c o u h => b.frz c o u (a.frz c o u h)⟩
theorem Ext.sqT {K : PySem.W.Frag} {F F' : Fz} {H H' : Hp} (e : Ext F H F' H') {a : Addr} {xs : List V} (h : SqT K H a xs) : SqT K H' a xs := by
  rcases h with (h | ⟨o, h⟩) | h
  · exact .inl (.inl (e.tup _ _ h))
  · exact .inl (.inr ⟨o, e.frz _ _ _ h⟩)
  · exact .inr h
theorem Ext.sqL {K : PySem.W.Frag} {F F' : Fz} {H H' : Hp} (e : Ext F H F' H') {a : Addr} {xs : List V} (ha : F a) (h : SqL K H a xs) : SqL K H' a xs := by
  rcases h with (h | ⟨o, h⟩) | h
  · exact .inl (.inl ((e.eq a ha).trans h))
  · exact .inl (.inr ⟨o, (e.eq a ha).trans h⟩)
  · exact .inr h
mutual
theorem RP.mono {K : PySem.W.Frag} {F F' : Fz} {H H' : Hp} (e : Ext F H F' H') : ∀ {v : V} {d : PyData}, RP K F H v d → RP K F' H' v d
  | _, _, .non => .non
  | _, _, .bl b => .bl b
  | _, _, .int i => .int i
  | _, _, .str x => .str x
  | _, _, .lst h1 h2 h3 => .lst (e.sub _ h1) ((e.eq _ h1).trans h2) (RPs.mono e h3)
  | _, _, .tup h2 h3 => .tup (e.sqT h2) (RPs.mono e h3)
  | _, _, .dic h1 h2 => .dic (e.sub _ h1) ((e.eq _ h1).trans h2)
theorem RPs.mono {K : PySem.W.Frag} {F F' : Fz} {H H' : Hp} (e : Ext F H F' H') : ∀ {v : List V} {d : List PyData}, RPs K F H v d → RPs K F' H' v d
  | _, _, .nil => .nil
  | _, _, .cons h1 h2 => .cons (RP.mono e h1) (RPs.mono e h2)
end
section
variable {K : PySem.W.Frag} {F : Fz} {H : Hp}
theorem RPs.length : ∀ {vs : List V} {ds : List PyData}, RPs K F H vs ds → vs.length = ds.length
  | _, _, .nil => rfl
  | _, _, .cons _ h => by rw [List.length_cons, List.length_cons, h.length]
theorem RPs.append : ∀ {vs ws : List V} {ds es : List PyData}, RPs K F H vs ds → RPs K F H ws es → RPs K F H (vs ++ ws) (ds ++ es)
  | _, _, _, _, .nil, h => h
  | _, _, _, _, .cons a b, h => .cons a (b.append h)
theorem RPs.take : ∀ {vs : List V} {ds : List PyData} (n : Nat), RPs K F H vs ds → RPs K F H (vs.take n) (ds.take n)
  | _, _, 0, _ => .nil
  | _, _, _ + 1, .nil => .nil
  | _, _, n + 1, .cons a b => .cons a (b.take n)
theorem RPs.drop : ∀ {vs : List V} {ds : List PyData} (n : Nat), RPs K F H vs ds → RPs K F H (vs.drop n) (ds.drop n)
  | _, _, 0, h => h
  | _, _, _ + 1, .nil => .nil
  | _, _, n + 1, .cons a b => b.drop n
theorem RPs.get : ∀ {vs : List V} {ds : List PyData} {i : Nat} {d : PyData}, RPs K F H vs ds → ds[i]? = some d → ∃ v, vs[i]? = some v ∧ RP K F H v d
  | _, _, _, _, .nil, e => by simp at e
  | _, _, 0, _, .cons a b, e => by simp at e; subst e; exact ⟨_, rfl, a⟩
  | _, _, i + 1, d, .cons a b, e => by
    obtain ⟨v, h1, h2⟩ := RPs.get (i := i) (d := d) b (by simpa using e)
    exact ⟨v, by simpa using h1, h2⟩
theorem RPs.get' : ∀ {vs : List V} {ds : List PyData} {i : Nat} {v : V}, RPs K F H vs ds → vs[i]? = some v → ∃ d, ds[i]? = some d ∧ RP K F H v d
  | _, _, _, _, .nil, e => by simp at e
  | _, _, 0, _, .cons a b, e => by simp at e; subst e; exact ⟨_, rfl, a⟩
  | _, _, i + 1, v, .cons a b, e => by
    obtain ⟨d, h1, h2⟩ := RPs.get' (i := i) (v := v) b (by simpa using e)
    exact ⟨d, by simpa using h1, h2⟩
end

/-! ### the law's state, the exception classes -/
structure Ctx where
  K : PySem.W.Frag
  st : Addr
  lf : Addr
  cl : Addr
  cls : Nat → Addr
def Ctx.S (C : Ctx) (a : Addr) : Prop := a = C.st ∨ a = C.lf ∨ a = C.cl
def stD (C : Ctx) (g : Nat) : List (Key × V) := [(.inr "cells", .ref C.cl), (.inr "lefts", .ref C.lf), (.inr "at", .int (g : Nat)), (.inr "room", .int 0)]
structure SI (C : Ctx) (H : Hp) (g : Nat) : Prop where
  st : H C.st = some (.dK (stD C g))
  lf : ∃ ls : List Int, H C.lf = some (.lst (ls.map V.int)) ∧ ∃ cs : List Int, H C.cl = some (.lst (cs.map V.int)) ∧ ls.length = cs.length ∧ 0 < cs.length
  ne : C.lf ≠ C.cl
theorem SI.has {C : Ctx} {H : Hp} {g : Nat} (h : SI C H g) {a : Addr} (ha : C.S a) : ∃ o, H a = some o := by
  obtain ⟨ls, h1, cs, h2, _⟩ := h.lf
  rcases ha with rfl | rfl | rfl
  · exact ⟨_, h.st⟩
  · exact ⟨_, h1⟩
  · exact ⟨_, h2⟩
theorem SI.non {C : Ctx} {H : Hp} {g : Nat} (h : SI C H g) {a : Addr} {o : HO} (e : H a = some o) (h1 : ∀ xs, o ≠ .lst xs) (h2 : ∀ xs, o ≠ .dK xs) : ¬ C.S a := by
  obtain ⟨ls, l1, cs, l2, _⟩ := h.lf
  rintro (rfl | rfl | rfl)
  · rw [h.st] at e; exact h2 _ (Option.some.inj e).symm
  · rw [l1] at e; exact h1 _ (Option.some.inj e).symm
  · rw [l2] at e; exact h1 _ (Option.some.inj e).symm
theorem SI.off {C : Ctx} {H : Hp} {g : Nat} (h : SI C H g) {a : Addr} (e : H a = none) : ¬ C.S a := fun ha => by
  obtain ⟨o, z⟩ := h.has ha
  rw [e] at z; cases z
theorem SI.at {C : Ctx} {H H' : Hp} {g : Nat} (h : SI C H g) (k : ∀ a, C.S a → H' a = H a) : SI C H' g := by
  obtain ⟨ls, l1, cs, l2, r⟩ := h.lf
  exact ⟨(k _ (.inl rfl)).trans h.st, ⟨ls, (k _ (.inr (.inl rfl))).trans l1, cs, (k _ (.inr (.inr rfl))).trans l2, r⟩, h.ne⟩

/-- an exception that was caught: its class, its dict -/
def cxo (e D dx : Addr) : HO := .ext fun h => ∃ o vs, h.get? e = some o ∧ o.cls = .ref D ∧ o.dict = some dx ∧ o.data = .fields vs
theorem cxo_at {P : Program} {w : World} {H : Hp} {h : Heap} {e D dx : Addr} (hok : HOk P w H h) (x : H e = some (cxo e D dx)) : ∃ o vs, h.get? e = some o ∧ o.cls = .ref D ∧ o.dict = some dx ∧ o.data = .fields vs := (hok e _ x).1
theorem cxo_ok {P : Program} {w : World} {H : Hp} {h : Heap} {e D dx : Addr} {o : Obj} {vs : Array Value} (h1 : h.get? e = some o) (h2 : o.cls = .ref D) (h3 : o.dict = some dx) (h4 : o.data = .fields vs) : ObjOk P w H h e (cxo e D dx) :=
  ⟨⟨o, vs, h1, h2, h3, h4⟩, ⟨o, h1⟩, fun _ _ ⟨o', vs', q1, q2⟩ k => ⟨o', vs', k _ q1, q2⟩⟩
/-- a value of the small language -/
def RV (C : Ctx) (F : Fz) (H : Hp) (v : V) : VD → Prop
  | .d x => RP C.K F H v x
  | .sta => v = .ref C.st
  | .scr n => ∃ a xs, v = .ref a ∧ ((∃ o, H a = some (.frz o (.lst xs))) ∨ SqL C.K (fun _ => none) a xs) ∧ xs.length = n
  | .exc c fs => ∃ a dx vs, v = .ref a ∧ F a ∧ F dx ∧ H a = some (cxo a (C.cls c) dx) ∧ H dx = some (.xd vs) ∧ Paired (fun (p : Str × V) (q : Str × PyData) => p.1 = q.1 ∧ RP C.K F H p.2 q.2) vs fs
theorem RV.mono {C : Ctx} {F F' : Fz} {H H' : Hp} (e : Ext F H F' H') {v : V} : ∀ {d : VD}, RV C F H v d → RV C F' H' v d
  | .d x, h => RP.mono e h
  | .sta, h => h
  | .scr n, ⟨a, xs, h1, h2, h3⟩ => ⟨a, xs, h1, h2.imp (fun ⟨o, z⟩ => ⟨o, e.frz _ _ _ z⟩) id, h3⟩
  | .exc c fs, ⟨a, dx, vs, h1, h2, h3, h4, h5, h6⟩ => ⟨a, dx, vs, h1, e.sub _ h2, e.sub _ h3, (e.eq _ h2).trans h4, (e.eq _ h3).trans h5, Paired.mapP h6 fun p q z => ⟨z.1, RP.mono e z.2⟩⟩
abbrev RVs (C : Ctx) (F : Fz) (H : Hp) : List V → List VD → Prop := Paired (RV C F H)
theorem RVs.mono {C : Ctx} {F F' : Fz} {H H' : Hp} (e : Ext F H F' H') {vs : List V} {ds : List VD} (h : RVs C F H vs ds) : RVs C F' H' vs ds := Paired.mapP h fun _ _ z => RV.mono e z
theorem RVs.all {C : Ctx} {F : Fz} {H : Hp} : ∀ {vs : List V} {ds : List VD} {xs : List PyData}, RVs C F H vs ds → allD ds = some xs → RPs C.K F H vs xs
  | _, _, _, .nil, e => by cases e; exact .nil
  | _, _, _, .cons (b := b) h t, e => by
    cases b with
    | d x =>
      simp only [allD, Option.map_eq_some_iff] at e
      obtain ⟨ys, e1, e2⟩ := e
      subst e2
      exact .cons h (RVs.all t e1)
    | sta => cases e
    | scr n => cases e
    | exc c fs => cases e

/-- what an expression or a call may do -/
structure Grow (C : Ctx) (F : Fz) (H : Hp) (F' : Fz) (H' : Hp) (g' : Nat) : Prop where
  keep : ∀ a o, H a = some o → ¬ C.S a → H' a = some o
  sub : ∀ a, F a → F' a
  new : ∀ a, F' a → F a ∨ H a = none
  trk : ∀ a, F' a → H' a ≠ none
  nst : ∀ a, F' a → ¬ C.S a
  sta : SI C H' g'
/-- the frozen set is well: tracked, not the state's -/
structure FOk (C : Ctx) (F : Fz) (H : Hp) (g : Nat) : Prop where
  trk : ∀ a, F a → H a ≠ none
  nst : ∀ a, F a → ¬ C.S a
  sta : SI C H g
theorem Grow.ok {C : Ctx} {F F' : Fz} {H H' : Hp} {g' : Nat} (G : Grow C F H F' H' g') : FOk C F' H' g' := ⟨G.trk, G.nst, G.sta⟩
theorem FOk.refl {C : Ctx} {F : Fz} {H : Hp} {g : Nat} (h : FOk C F H g) : Grow C F H F H g := ⟨fun _ _ e _ => e, fun _ h => h, fun _ h => .inl h, h.trk, h.nst, h.sta⟩
theorem Grow.trans {C : Ctx} {F F1 F2 : Fz} {H H1 H2 : Hp} {g1 g2 : Nat} (a : Grow C F H F1 H1 g1) (b : Grow C F1 H1 F2 H2 g2) : Grow C F H F2 H2 g2 where
  keep := fun c o e h => b.keep c o (a.keep c o e h) h
  sub := fun c h => b.sub c (a.sub c h)
  new := fun c h => by
    rcases b.new c h with z | z
    · exact a.new c z
    · refine .inr ?_
      cases e : H c with
      | none => rfl
      | some o => rw [a.keep c o e (a.sta.off z)] at z; cases z
  trk := b.trk
  nst := b.nst
  sta := b.sta
theorem Grow.ext {C : Ctx} {F F' : Fz} {H H' : Hp} {g g' : Nat} (ok : FOk C F H g) (G : Grow C F H F' H' g') : Ext F H F' H' where
  sub := G.sub
  eq := fun a h => by
    cases e : H a with
    | none => exact absurd e (ok.trk a h)
    | some o => exact G.keep a o e (ok.nst a h)
  tup := fun a xs e => G.keep a _ e (ok.sta.non e (fun _ z => by cases z) (fun _ z => by cases z))
  frz := fun a o u e => G.keep a _ e (ok.sta.non e (fun _ z => by cases z) (fun _ z => by cases z))
/-- a new object, not frozen -/
theorem FOk.alloc {C : Ctx} {F : Fz} {H : Hp} {g : Nat} (h : FOk C F H g) {p : Addr} (o : HO) (hp : H p = none) : Grow C F H F (upd H p o) g where
  keep := fun a o' e _ => by rw [upd_ne (ne_of_none e hp)]; exact e
  sub := fun _ h => h
  new := fun _ h => .inl h
  trk := fun a ha => by
    have q : a ≠ p := fun e => h.trk a ha (by rw [e]; exact hp)
    rw [upd_ne q]; exact h.trk a ha
  nst := h.nst
  sta := h.sta.at fun a ha => by
    have q : a ≠ p := fun e => h.sta.off hp (by rw [← e]; exact ha)
    exact upd_ne q
/-- a new object, frozen at once -/
def fz (F : Fz) (p : Addr) : Fz := fun a => F a ∨ a = p
theorem FOk.allocF {C : Ctx} {F : Fz} {H : Hp} {g : Nat} (h : FOk C F H g) {p : Addr} (o : HO) (hp : H p = none) : Grow C F H (fz F p) (upd H p o) g where
  keep := (h.alloc o hp).keep
  sub := fun _ h => .inl h
  new := fun a ha => by
    rcases ha with ha | ha
    · exact .inl ha
    · rw [ha]; exact .inr hp
  trk := fun a ha => by
    rcases ha with ha | ha
    · exact (h.alloc o hp).trk a ha
    · rw [ha, upd_same]; exact nofun
  nst := fun a ha => by
    rcases ha with ha | ha
    · exact h.nst a ha
    · rw [ha]; exact h.sta.off hp
  sta := (h.alloc o hp).sta

/-! ### a frame -/
structure BI (C : Ctx) (H0 : Hp) (F0 : Fz) (δ : Env) (σ : L2.St) (H : Hp) (F : Fz) (g : Nat) : Prop where
  len : δ.length = σ.length
  sh : ∀ (i : Nat) (v : VD), δ[i]? = some (.sh v) → ∃ x, σ[i]? = some (some x) ∧ RV C F H x v
  ow : ∀ (i : Nat) (ds : List PyData), δ[i]? = some (.ow ds) → ∃ a xs, σ[i]? = some (some (.ref a)) ∧ H a = some (.lst xs) ∧ RPs C.K F H xs ds ∧ ¬ F a ∧ ¬ C.S a ∧ H0 a = none
  ne : ∀ (i j : Nat) (ds es : List PyData) (a : Addr), i ≠ j → δ[i]? = some (.ow ds) → δ[j]? = some (.ow es) → σ[i]? = some (some (.ref a)) → σ[j]? ≠ some (some (.ref a))
  gr : Grow C F0 H0 F H g
section
variable {C : Ctx} {H0 : Hp} {F0 : Fz} {δ : Env} {σ : L2.St} {H : Hp} {F : Fz} {g : Nat}
theorem BI.ok (B : BI C H0 F0 δ σ H F g) : FOk C F H g := B.gr.ok
theorem BI.grow (B : BI C H0 F0 δ σ H F g) {H' : Hp} {F' : Fz} {g' : Nat} (G : Grow C F H F' H' g') : BI C H0 F0 δ σ H' F' g' := by
  have e := G.ext B.ok
  refine ⟨B.len, fun i v h => ?_, fun i ds h => ?_, B.ne, B.gr.trans G⟩
  · obtain ⟨x, h1, h2⟩ := B.sh i v h
    exact ⟨x, h1, h2.mono e⟩
  · obtain ⟨a, xs, h1, h2, h3, h4, h5, h6⟩ := B.ow i ds h
    refine ⟨a, xs, h1, G.keep a _ h2 h5, h3.mono e, fun z => ?_, h5, h6⟩
    rcases G.new a z with z | z
    · exact h4 z
    · rw [h2] at z; cases z
theorem BI.ext (B : BI C H0 F0 δ σ H F g) {H' : Hp} {F' : Fz} {g' : Nat} (G : Grow C F H F' H' g') : Ext F H F' H' := G.ext B.ok
/-- a name gets a value -/
theorem BI.store (B : BI C H0 F0 δ σ H F g) {i : Nat} {x : V} {v : VD} (hi : i < σ.length) (r : RV C F H x v) : BI C H0 F0 (δ.set i (.sh v)) (σ.set i (some x)) H F g := by
  have hd : i < δ.length := by rw [B.len]; exact hi
  refine ⟨by rw [List.length_set, List.length_set, B.len], fun j w h => ?_, fun j ds h => ?_, fun j k ds es a hjk h1 h2 h3 => ?_, B.gr⟩
  · by_cases e : i = j
    · subst e
      rw [List.getElem?_set_self hd] at h
      cases h
      exact ⟨x, List.getElem?_set_self hi, r⟩
    · rw [List.getElem?_set_ne e] at h
      rw [List.getElem?_set_ne e]
      exact B.sh j w h
  · by_cases e : i = j
    · subst e
      rw [List.getElem?_set_self hd] at h
      cases h
    · rw [List.getElem?_set_ne e] at h
      rw [List.getElem?_set_ne e]
      exact B.ow j ds h
  · have e1 : i ≠ j := fun e => by subst e; rw [List.getElem?_set_self hd] at h1; cases h1
    have e2 : i ≠ k := fun e => by subst e; rw [List.getElem?_set_self hd] at h2; cases h2
    rw [List.getElem?_set_ne e1] at h1 h3
    rw [List.getElem?_set_ne e2] at h2 ⊢
    exact B.ne j k ds es a hjk h1 h2 h3
/-- a name is forgotten -/
theorem BI.un (B : BI C H0 F0 δ σ H F g) {i : Nat} {o : Option V} : BI C H0 F0 (δ.set i .un) (σ.set i o) H F g := by
  refine ⟨by rw [List.length_set, List.length_set, B.len], fun j w h => ?_, fun j ds h => ?_, fun j k ds es a hjk h1 h2 h3 => ?_, B.gr⟩
  all_goals
    have nn : ∀ {j : Nat} {s : Sl}, (δ.set i .un)[j]? = some s → s ≠ .un → i ≠ j ∧ δ[j]? = some s := fun {j s} h hs => by
      by_cases e : i = j
      · subst e
        by_cases hd : i < δ.length
        · rw [List.getElem?_set_self hd] at h; cases h; exact absurd rfl hs
        · rw [List.getElem?_eq_none (by rw [List.length_set]; omega)] at h; cases h
      · rw [List.getElem?_set_ne e] at h
        exact ⟨e, h⟩
  · obtain ⟨e, h⟩ := nn h nofun
    rw [List.getElem?_set_ne e]
    exact B.sh j w h
  · obtain ⟨e, h⟩ := nn h nofun
    rw [List.getElem?_set_ne e]
    exact B.ow j ds h
  · obtain ⟨e1, h1⟩ := nn h1 nofun
    obtain ⟨e2, h2⟩ := nn h2 nofun
    rw [List.getElem?_set_ne e1] at h3
    rw [List.getElem?_set_ne e2]
    exact B.ne j k ds es a hjk h1 h2 h3
theorem BI.wipe (B : BI C H0 F0 δ σ H F g) : ∀ vs : List Nat, BI C H0 F0 (wipeD δ vs) (L2.wipe σ vs) H F g
  | [] => B
  | v :: vs => (B.wipe vs).un
/-- a name gets a list of its own -/
theorem BI.own (B : BI C H0 F0 δ σ H F g) {i : Nat} {p : Addr} {xs : List V} {ds : List PyData} (hi : i < σ.length) (h1 : H p = some (.lst xs)) (h2 : RPs C.K F H xs ds) (h3 : ¬ F p) (h4 : ¬ C.S p) (h5 : H0 p = none)
    (hn : ∀ (j : Nat) (es : List PyData), i ≠ j → δ[j]? = some (.ow es) → σ[j]? ≠ some (some (.ref p))) : BI C H0 F0 (δ.set i (.ow ds)) (σ.set i (some (.ref p))) H F g := by
  have hd : i < δ.length := by rw [B.len]; exact hi
  refine ⟨by rw [List.length_set, List.length_set, B.len], fun j w h => ?_, fun j es h => ?_, fun j k es fs a hjk k1 k2 k3 => ?_, B.gr⟩
  · by_cases e : i = j
    · subst e
      rw [List.getElem?_set_self hd] at h
      cases h
    · rw [List.getElem?_set_ne e] at h
      rw [List.getElem?_set_ne e]
      exact B.sh j w h
  · by_cases e : i = j
    · subst e
      rw [List.getElem?_set_self hd] at h
      cases h
      exact ⟨p, xs, List.getElem?_set_self hi, h1, h2, h3, h4, h5⟩
    · rw [List.getElem?_set_ne e] at h
      rw [List.getElem?_set_ne e]
      exact B.ow j es h
  · by_cases e1 : i = j
    · subst e1
      rw [List.getElem?_set_self hi] at k3
      cases k3
      rw [List.getElem?_set_ne hjk] at k2 ⊢
      exact hn k _ hjk k2
    · rw [List.getElem?_set_ne e1] at k1 k3
      by_cases e2 : i = k
      · subst e2
        rw [List.getElem?_set_self hi]
        intro z
        cases z
        exact hn j _ e1 k1 k3
      · rw [List.getElem?_set_ne e2] at k2 ⊢
        exact B.ne j k _ _ a hjk k1 k2 k3
/-- the frame's own list is changed -/
theorem BI.write (B : BI C H0 F0 δ σ H F g) {i : Nat} {a : Addr} {xs ys : List V} {ds es : List PyData} (hd : δ[i]? = some (.ow ds)) (hs : σ[i]? = some (some (.ref a))) (h1 : H a = some (.lst xs)) (hF : ¬ F a) (hS : ¬ C.S a) (h0 : H0 a = none)
    (r : RPs C.K F H ys es) : BI C H0 F0 (δ.set i (.ow es)) σ (upd H a (.lst ys)) F g ∧ Ext F H F (upd H a (.lst ys)) := by
  have hi : i < σ.length := (List.getElem?_eq_some_iff.mp hs).1
  have hdl : i < δ.length := by rw [B.len]; exact hi
  have ex : Ext F H F (upd H a (.lst ys)) := ⟨fun _ h => h, fun b hb => upd_ne fun e => hF (e ▸ hb), fun b zs e => by rw [upd_ne (fun q => by rw [q, h1] at e; cases e)]; exact e, fun b o u e => by rw [upd_ne (fun q => by rw [q, h1] at e; cases e)]; exact e⟩
  have gr : Grow C F0 H0 F (upd H a (.lst ys)) g := ⟨fun b o e n => by rw [upd_ne (ne_of_none e h0)]; exact B.gr.keep b o e n, B.gr.sub, B.gr.new, fun b hb => by
      have q : b ≠ a := fun e => hF (e ▸ hb)
      rw [upd_ne q]; exact B.gr.trk b hb, B.gr.nst,
    B.gr.sta.at fun b hb => upd_ne fun e => hS (e ▸ hb)⟩
  refine ⟨⟨by rw [List.length_set, B.len], fun j w h => ?_, fun j fs h => ?_, fun j k fs ks b hjk k1 k2 k3 => ?_, gr⟩, ex⟩
  · have e : i ≠ j := fun e => by subst e; rw [List.getElem?_set_self hdl] at h; cases h
    rw [List.getElem?_set_ne e] at h
    obtain ⟨x, e1, e2⟩ := B.sh j w h
    exact ⟨x, e1, e2.mono ex⟩
  · by_cases e : i = j
    · subst e
      rw [List.getElem?_set_self hdl] at h
      cases h
      exact ⟨a, ys, hs, upd_same, r.mono ex, hF, hS, h0⟩
    · rw [List.getElem?_set_ne e] at h
      obtain ⟨b, zs, e1, e2, e3, e4, e5, e6⟩ := B.ow j fs h
      have nb : b ≠ a := fun q => by
        subst q
        exact B.ne i j ds fs b e hd h hs e1
      exact ⟨b, zs, e1, by rw [upd_ne nb]; exact e2, e3.mono ex, e4, e5, e6⟩
  · have j1 : ∃ fs', δ[j]? = some (.ow fs') := by
      by_cases e : i = j
      · subst e; exact ⟨_, hd⟩
      · rw [List.getElem?_set_ne e] at k1; exact ⟨_, k1⟩
    have j2 : ∃ fs', δ[k]? = some (.ow fs') := by
      by_cases e : i = k
      · subst e; exact ⟨_, hd⟩
      · rw [List.getElem?_set_ne e] at k2; exact ⟨_, k2⟩
    obtain ⟨_, q1⟩ := j1
    obtain ⟨_, q2⟩ := j2
    exact B.ne j k _ _ b hjk q1 q2 k3
/-- the frame's own list is frozen -/
theorem BI.freeze (B : BI C H0 F0 δ σ H F g) {i : Nat} {ds : List PyData} (hd : δ[i]? = some (.ow ds)) : ∃ F', BI C H0 F0 (δ.set i (.sh (.d (.list ds)))) σ H F' g ∧ Ext F H F' H := by
  obtain ⟨a, xs, hs, h1, r, hF, hS, h0⟩ := B.ow i ds hd
  have hi : i < σ.length := (List.getElem?_eq_some_iff.mp hs).1
  have hdl : i < δ.length := by rw [B.len]; exact hi
  have ex : Ext F H (fz F a) H := ⟨fun _ h => .inl h, fun _ _ => rfl, fun _ _ h => h, fun _ _ _ h => h⟩
  refine ⟨fz F a, ⟨by rw [List.length_set, B.len], fun j w h => ?_, fun j fs h => ?_, fun j k fs ks b hjk k1 k2 k3 => ?_, ⟨B.gr.keep, fun b h => .inl (B.gr.sub b h), fun b h => ?_, fun b h => ?_, fun b h => ?_, B.gr.sta⟩⟩, ex⟩
  · by_cases e : i = j
    · subst e
      rw [List.getElem?_set_self hdl] at h
      cases h
      exact ⟨.ref a, hs, RP.lst (.inr rfl) h1 (r.mono ex)⟩
    · rw [List.getElem?_set_ne e] at h
      obtain ⟨x, e1, e2⟩ := B.sh j w h
      exact ⟨x, e1, e2.mono ex⟩
  · have e : i ≠ j := fun e => by subst e; rw [List.getElem?_set_self hdl] at h; cases h
    rw [List.getElem?_set_ne e] at h
    obtain ⟨b, zs, e1, e2, e3, e4, e5, e6⟩ := B.ow j fs h
    refine ⟨b, zs, e1, e2, e3.mono ex, fun z => ?_, e5, e6⟩
    rcases z with z | z
    · exact e4 z
    · subst z
      exact B.ne i j ds fs b e hd h hs e1
  · have e1 : i ≠ j := fun e => by subst e; rw [List.getElem?_set_self hdl] at k1; cases k1
    have e2 : i ≠ k := fun e => by subst e; rw [List.getElem?_set_self hdl] at k2; cases k2
    rw [List.getElem?_set_ne e1] at k1
    rw [List.getElem?_set_ne e2] at k2
    exact B.ne j k _ _ b hjk k1 k2 k3
  · rcases h with h | h
    · exact B.gr.new b h
    · exact .inr (h ▸ h0)
  · rcases h with h | h
    · exact B.gr.trk b h
    · rw [h, h1]; exact nofun
  · rcases h with h | h
    · exact B.gr.nst b h
    · rw [h]; exact hS
end
end NC

set_option Elab.async false
set_option linter.all false
set_option maxRecDepth 100000
set_option maxHeartbeats 2000000
namespace NC
open PySem PySem.Spec PyProof.Rows L2
/-! ### defs that may lean on it that no repr is under way -/
structure FnG (P : Program) (w : World) (K : PySem.W.Frag) (mg : Str → Option Value) (base : Heap) (k : Nat) (f : Addr) (fd : FuncData) (ps : List Str) (sp : Sp) : Prop where
  len : ∀ vs H Q E, sp vs H Q E → vs.length = ps.length
  run : ∀ (A : Around) (outer : List PySem.Env) (s : Shared) (H : Hp) (us : List Value) (vs : List V) (Q : VK) (E : XK), Room k A → A.guards = some [] → Env0 P w K mg base A outer s H →
    BindsTo s fd ⟨us, []⟩ (ps.zip us) → Vals vs us → sp vs H Q E → codeAny (model P w) A (.call (.ref f) ⟨us, []⟩) (CR (L2.CX P w) outer P w H s Q E) s
section
variable {X : Cx} {k : Nat} {f : Addr} {fd : FuncData} {ps : List Str} {sp : Sp} {W : WX} {x : Str} {p pos : Pos} {t : TA}
theorem run_g {pins : List (Addr × Obj)} {σ : L2.St} {H : Hp} {s : Shared} {Q : VK} {us : List Value} {vs : List V} (F : FnG X.prog X.w X.K X.mg X.base k f fd ps sp) (room : Room k X.A) (quiet : X.A.guards = some []) (bd : Binds X.K fd ps []) (tk : Takes X W)
    (inv : Inv X pins σ H s) (rel : Vals vs us) (want : sp vs H Q (WE W σ)) : wpAny (model X.prog X.w) X.A (call (.ref f) us) (EP X pins σ Q) X.xe s := by
  have el : us.length = ps.length := rel.length.symm.trans (F.len _ _ _ _ want)
  have bb : BindsTo s fd ⟨us, []⟩ (ps.zip us) := by simpa using bd s us inv.kIn (by simpa using el)
  refine wpAny_call (codeAny_mono (F.run X.A X.stack s H us vs Q (WE W σ) room quiet inv.env0 bb rel want) fun res s' out => ?_)
  match res, out with
  | .error e, out => exact passAt tk σ pins H s e s' inv out
  | .ok (.ret u), out => exact inv.after out
theorem pe_g1 {e : Expr} {es : List Expr} (F : FnG X.prog X.w X.K X.mg X.base k f fd ps sp) (room : Room k X.A) (quiet : X.A.guards = some []) (bd : Binds X.K fd ps []) (tk : Takes X W)
    (gl : Gl X x) (at_ : X.mg x = some (.ref f)) (kp : PySem.W.keepIn X.K (.ref f) = true) (nd : (x == ("__debug__" : Str)) = false) (args : PA X (e :: es) t)
    (s1 : starEach (e :: es) X.env = (false, eval e X.env) :: starEach es X.env) (s2 : (backTo pos (starEach es X.env)).any (·.1) = false) : PE X (.Call (.Name x p) (e :: es) [] pos) (tCallS sp (WE W) t) :=
  ⟨fun pins s σ H Q inv want => wpAny_Call_Name_kw (ld_glob inv gl at_ (PySem.W.callWith_K (h₀ := X.base) inv.ok.mod.kin kp
    (thn (args.run pos pins s σ H _ inv want) fun us s' ⟨vs, H', inv', rel, q⟩ => ⟨inv'.kIn, run_g F room quiet bd tk inv' rel q⟩) s1 s2) nd)⟩
theorem pe_g0 (F : FnG X.prog X.w X.K X.mg X.base k f fd ps sp) (room : Room k X.A) (quiet : X.A.guards = some []) (bd : Binds X.K fd ps []) (tk : Takes X W)
    (gl : Gl X x) (at_ : X.mg x = some (.ref f)) (kp : PySem.W.keepIn X.K (.ref f) = true) (nd : (x == ("__debug__" : Str)) = false) : PE X (.Call (.Name x p) [] [] pos) (tCallS sp (WE W) tNil) :=
  ⟨fun pins s σ H Q inv want => wpAny_Call_Name_kw (ld_glob inv gl at_ (PySem.W.callWith_K0 inv.kIn kp (run_g (us := []) (vs := []) F room quiet bd tk inv .nil want)) nd)⟩
end
/-- a def of the text by its body -/
theorem fn_g {P : Program} {w : World} {K : PySem.W.Frag} {mg : Str → Option Value} {base : Heap} {k : Nat} {x qual : Str} {st : Stmt} {f : Addr} {fd : FuncData} {N ps : List Str} {sp : Sp} (F : Fun K x qual st f fd) (sc : FnScope N ps (defScope st))
    (len : ∀ vs H Q E, sp vs H Q E → vs.length = ps.length)
    (body : ∀ (cdv : Value) (A : Around) (outer : List PySem.Env) (s : Shared) (H : Hp) (vs : List V) (Q : VK) (E : XK), Room k (A.deeper (envOfC qual (defScope st) s.heap.objs.size f cdv)) → A.guards = some [] → sp vs H Q E →
      ∃ t, PSs (cxOf (L2.CX P w) P w K mg base N qual (defScope st) f cdv A outer s H E) (defBody st) t ∧ t { nx := fun _ H' => Q .non H', rt := Q } (start N vs) H) : FnG P w K mg base (k + 1) f fd ps sp := by
  obtain ⟨oc, od, kV, doc, pm, an, cdv, ct, osl, rfl, lk, hcd⟩ := F.ex
  refine ⟨len, fun A outer s H us vs Q E room quiet e0 bd rel want => ?_⟩
  have el := len _ _ _ _ want
  have kin : K.In s.heap := e0.mod.kin.keeps fun b o e => (e0.bs b o e).1
  have nl : s.heap.NoLimit := e0.mod.nolimit.keeps fun b o e => (e0.bs b o e).1
  have kinds : ∀ y ∈ ps.zip us, (defScope st).names.lookup y.1 = some .local ∨ ((defScope st).names.lookup y.1 = some .cell ∧ ((cellsFrom (s.heap.objs.size + 1) (defScope st).names []).lookup y.1).isSome = true) := by
    rintro ⟨n, v⟩ hy
    exact (sc.par n (List.of_mem_zip hy).1).imp id fun q => ⟨q, PySem.W.cellsFrom_some _ _ _ (.inl q)⟩
  refine codeAny_call_function room.depth (kin _ _ lk) rfl sc.co sc.gen rfl (PySem.W.codeRec_of kin hcd) (bd _ _ _ _ ?_)
  refine wpAny_newFunctionEnv_cells sc.kind kinds fun env henv s1 ic => ?_
  subst henv
  refine ⟨nl.keeps ic.toInCall.keep, codeAny_func ?_⟩
  obtain ⟨t, ht, q⟩ := body cdv A outer s H vs Q E (room.deeper _) quiet want
  have inv := inv_start (CX := L2.CX P w) (mg := mg) (N := N) (ps := ps) (E := E) sc room.hd e0 el rel ic
  refine wpAny_mono (ht.run [] s1 (start N vs) H _ inv q) (fun fl s' o => ?_) fun e s' o => o
  match fl, o with
  | .ret u, ⟨v, σ', H', J, rv, q⟩ => exact ⟨v, H', J.os, J.bare, J.base, J.hok, rv, q⟩
  | .next, ⟨σ', H', J, q⟩ => exact ⟨.non, H', J.os, J.bare, J.base, J.hok, rfl, q⟩
  | .brk, ⟨_, _, _, q⟩ => exact q.elim
  | .cont, ⟨_, _, _, q⟩ => exact q.elim
end NC

set_option Elab.async false
set_option linter.all false
set_option maxRecDepth 100000
set_option maxHeartbeats 2000000
namespace NC
open PySem PySem.Spec PyProof.Rows L2
/-! ### values in a reading place -/
def TV (C : Ctx) (F : Fz) (H : Hp) (v : V) (x : VD) : Prop := RV C F H v x ∨ ∃ a xs ds, v = .ref a ∧ x = .d (.list ds) ∧ H a = some (.lst xs) ∧ ¬ C.S a ∧ RPs C.K F H xs ds
section
variable {C : Ctx} {F F' : Fz} {H H' : Hp} {g g' : Nat} {v : V}
theorem TV.grow {x : VD} (ok : FOk C F H g) (G : Grow C F H F' H' g') (h : TV C F H v x) : TV C F' H' v x := by
  rcases h with h | ⟨a, xs, ds, e1, e2, e3, e4, e5⟩
  · exact .inl (h.mono (G.ext ok))
  · exact .inr ⟨a, xs, ds, e1, e2, G.keep a _ e3 e4, e4, e5.mono (G.ext ok)⟩
theorem TV.list {ds : List PyData} (h : TV C F H v (.d (.list ds))) : ∃ a xs, v = .ref a ∧ H a = some (.lst xs) ∧ RPs C.K F H xs ds := by
  rcases h with h | ⟨a, xs, es, e1, e2, e3, e4, e5⟩
  · cases (show RP C.K F H v (.list ds) from h) with
    | lst h1 h2 h3 => exact ⟨_, _, rfl, h2, h3⟩
  · cases e2
    exact ⟨a, xs, e1, e3, e5⟩
theorem TV.data {x : PyData} (h : TV C F H v (.d x)) (hx : ∀ ds, x ≠ .list ds) : RP C.K F H v x := by
  rcases h with h | ⟨a, xs, es, e1, e2, e3, e4, e5⟩
  · exact h
  · cases e2
    exact absurd rfl (hx es)
theorem TV.tup {ds : List PyData} (h : TV C F H v (.d (.tuple ds))) : ∃ a xs, v = .ref a ∧ SqT C.K H a xs ∧ RPs C.K F H xs ds := by
  cases h.data (fun _ => nofun) with
  | tup h2 h3 => exact ⟨_, _, rfl, h2, h3⟩
theorem TV.int {i : Int} (h : TV C F H v (.d (.int i))) : v = .int i := by cases h.data (fun _ => nofun); rfl
theorem TV.str {i : Str} (h : TV C F H v (.d (.str i))) : v = .str i := by cases h.data (fun _ => nofun); rfl
theorem TV.bool {i : Bool} (h : TV C F H v (.d (.bool i))) : v = .bl i := by cases h.data (fun _ => nofun); rfl
theorem TV.non (h : TV C F H v (.d .none)) : v = .non := by cases h.data (fun _ => nofun); rfl
/-- a value is None just if its data are -/
theorem TV.isNon {x : VD} (h : TV C F H v x) : v = .non ↔ x = .d .none := by
  constructor
  · rintro rfl
    rcases h with h | ⟨a, xs, es, e1, e2, e3, e4, e5⟩
    · cases x with
      | d y =>
        cases (show RP C.K F H .non y from h)
        rfl
      | sta => exact nomatch (show V.non = .ref C.st from h)
      | scr n => obtain ⟨a, _, e, _⟩ := h; exact nomatch e
      | exc c fs => obtain ⟨a, _, _, e, _⟩ := h; exact nomatch e
    · exact nomatch e1
  · rintro rfl
    exact h.non
end

/-! ### from values to what the library reads -/
/-- sys.modules stands in the written part -/
def KSys (base : Heap) : Prop := ∃ o, base.get? sysModules = some o ∧ o.cls = .type "dict"
section
variable {X : Cx} {pins : List (Addr × Obj)} {σ : L2.St} {H : Hp} {s : Shared} {F : Fz}
theorem notSys (I : Inv X pins σ H s) (ks : KSys X.base) {a : Addr} {o : HO} (h : H a = some o) : a ≠ sysModules := by
  rintro rfl
  obtain ⟨ob, h1, _⟩ := ks
  have := (I.bs _ _ h1).2
  rw [h] at this; cases this
theorem sqL_notSys (I : Inv X pins σ H s) (ks : KSys X.base) {a : Addr} {xs : List V} (h : SqL X.K H a xs) : a ≠ sysModules := by
  rcases h with (h | ⟨o, h⟩) | ⟨o, its, n, hk, hc, _⟩
  · exact notSys I ks h
  · exact notSys I ks h
  · rintro rfl
    obtain ⟨ob, h1, h2⟩ := ks
    have hk := I.ok.mod.kin _ _ hk
    rw [h1] at hk; cases hk
    rw [h2] at hc
    injection hc with z
    exact absurd z (by decide)
mutual
theorem RP.reads (I : Inv X pins σ H s) (ks : KSys X.base) : ∀ {d : PyData} {v : V} {u : Value}, RP X.K F H v d → RelV v u → ∃ as, Reads s.heap u d as ∧ sysModules ∉ as
  | _, _, _, .non, r => by cases r; exact ⟨_, Reads.none, by simp⟩
  | _, _, _, .bl b, r => by cases r; exact ⟨_, Reads.bool b, by simp⟩
  | _, _, _, .int i, r => by obtain ⟨t, rfl⟩ := r; exact ⟨_, Reads.int i t, by simp⟩
  | _, _, _, .str x, r => by obtain ⟨t, rfl⟩ := r; exact ⟨_, Reads.str x t, by simp⟩
  | _, _, _, .lst h1 h2 h3, r => by
    cases r
    obtain ⟨its, rv, ⟨o, n, e, c, _, dd⟩, _⟩ := I.list (SqL.of h2)
    obtain ⟨as, ra, na⟩ := RPs.reads I ks h3 rv
    exact ⟨_, Reads.list e c dd (by simpa using ra), by simp only [List.mem_cons, not_or]; exact ⟨(notSys I ks h2).symm, na⟩⟩
  | _, _, _, .tup h2 h3, r => by
    cases r
    obtain ⟨its, rv, ⟨o, e, c, n, dd⟩, _⟩ := I.tuple h2
    obtain ⟨as, ra, na⟩ := RPs.reads I ks h3 rv
    exact ⟨_, Reads.tuple e c dd (by simpa using ra), na⟩
  | _, _, _, .dic h1 h2, r => by
    cases r
    obtain ⟨_, _, vs, kv, o, es, ep, ho, ex, hd, _, he, _⟩ := I.hok _ _ h2
    cases kv
    have hes : es = #[] := by
      apply Array.ext'
      generalize es.toList = l at he
      cases l with
      | nil => rfl
      | cons x l => exact nomatch he
    subst hes
    exact ⟨_, Reads.dict (kvs := []) ho ex.1 hd .nil .nil, by simp; exact (notSys I ks h2).symm⟩
theorem RPs.reads (I : Inv X pins σ H s) (ks : KSys X.base) : ∀ {d : List PyData} {v : List V} {u : List Value}, RPs X.K F H v d → Vals v u → ∃ as, ReadsAll s.heap u d as ∧ sysModules ∉ as
  | _, _, _, .nil, r => by cases r; exact ⟨_, .nil, by simp⟩
  | _, _, _, .cons h1 h2, r => by
    cases r with
    | cons r1 r2 =>
      obtain ⟨as, ra, na⟩ := RP.reads I ks h1 r1
      obtain ⟨bs, rb, nb⟩ := RPs.reads I ks h2 r2
      exact ⟨_, .cons ra rb, by simp only [List.mem_append, not_or]; exact ⟨na, nb⟩⟩
end
theorem TV.reads {C : Ctx} (hK : X.K = C.K) (I : Inv X pins σ H s) (ks : KSys X.base) {d : PyData} {v : V} {u : Value} (h : TV C F H v (.d d)) (r : RelV v u) : ∃ as, Reads s.heap u d as ∧ sysModules ∉ as := by
  rcases h with h | ⟨a, xs, ds, e1, e2, e3, e4, e5⟩
  · exact RP.reads I ks (by rw [hK]; exact h) r
  · cases e2
    subst e1
    cases r
    have h2 : SqL X.K H a xs := SqL.of e3
    obtain ⟨its, rv, ⟨o, n, e, c, _, dd⟩, _⟩ := I.list h2
    obtain ⟨as, ra, na⟩ := RPs.reads (F := F) I ks (by rw [hK]; exact e5) rv
    exact ⟨_, Reads.list e c dd (by simpa using ra), by simp only [List.mem_cons, not_or]; exact ⟨(sqL_notSys I ks h2).symm, na⟩⟩
end
end NC

set_option Elab.async false
set_option linter.all false
set_option maxRecDepth 100000
set_option maxHeartbeats 4000000
namespace NC
open PySem PySem.Spec PyProof.Rows L2
/-! ### an empty tuple times a number: itself -/
theorem tup_mulE (l : Addr) (n : Nat) (dd : Option Addr) (sl : Array (Option Value)) (x : Int) (u : Tok) (c0 : (decide (x < -(2 ^ 63)) || decide (x ≥ 2 ^ 63)) = false) :
    Meets (Builtin.«tuple.__mul__» ⟨[.ref l, .int x u], []⟩) (fun _ R s => s.heap.get? l = some { cls := .type "tuple", dict := dd, data := .seq #[] n, slots := sl } ∧ R (.ok (.ret (Value.ref l))) s) :=
  .of_wp fun prog w A R s h => by
    obtain ⟨hp, g, d, tk, os⟩ := s
    obtain ⟨hl, h⟩ := h
    have f1 := AutoSeq1.idx_int
    wp_walk using wpAny_loadPart' hl
    refine wpAny_ite_false (decide_eq_false (by rw [c0]; exact Bool.false_ne_true)) ?_
    wp_walk using wpAny_loadPart' hl
    exact ⟨_, rfl, h⟩
def rRepE (K : PySem.W.Frag) : R2 := fun x y H Q => ∃ l k, x = .ref l ∧ y = .int k ∧ SqT K H l [] ∧ 2 ≤ k ∧ k ≤ 1000 ∧ Q (.ref l) H
section
variable {X : Cx}
theorem op_repE : OpR X (binaryOp .Mult) (rRepE X.K) := by
  intro pins s σ H x y v u Q I rx ry h
  obtain ⟨l, k, rfl, rfl, hT, h1, h2, q⟩ := h
  cases rx
  obtain ⟨t, rfl⟩ := ry
  obtain ⟨its, r, ⟨⟨cls, dd, data, sl⟩, ho, hc, n, hd⟩, hs⟩ := I.tuple hT
  simp only at hc hd
  subst hc hd
  have hle : its = [] := List.eq_nil_of_length_eq_zero r.length.symm
  subst hle
  have c0 : (decide (k < -(2 ^ 63)) || decide (k ≥ 2 ^ 63)) = false := by
    rw [decide_eq_false (by omega), decide_eq_false (by omega)] <;> rfl
  refine wpAny_binaryOp_repeat_ref (T := "tuple") (U := "int") (by decide) ⟨_, ho, rfl⟩ (fun s' => typeIs_int s' k t) noFill_tuple_mul F.fills_int_mul F.slot_int_rmul repeat_tuple F.slot_int_index.lookup
    (call_meets F.slot_int_rmul (typeIs_int s k t) F.entry_int_rmul (F.args_int_rmul_2 _ _) (int_rmul_tuple k t l #[] n dd sl)
      ⟨ho, rfl, ⟨_, ho, rfl⟩, call_meets F.slot_tuple_mul ⟨_, ho, rfl⟩ F.entry_tuple_mul (F.args_tuple_mul_2 _ _) (tup_mulE l n dd sl k t c0) ⟨ho, ?_⟩⟩)
  exact ⟨.ref l, _, I, rfl, q⟩
end
end NC

set_option Elab.async false
set_option linter.all false
set_option maxRecDepth 100000
set_option maxHeartbeats 2000000
namespace NC
open PySem PySem.Spec PyProof.Rows L2
/-! ### operators by data -/
/-- what is wanted of a result: of every value that stands for it, whatever grew -/
def rRes (C : Ctx) (F : Fz) (H : Hp) (g : Nat) (z : PyData) (Q : VK) : Prop := ∀ v H' F', Grow C F H F' H' g → RP C.K F' H' v z → Q v H'
theorem rRes.now {C : Ctx} {F : Fz} {H : Hp} {g : Nat} {z : PyData} {Q : VK} (q : rRes C F H g z Q) (ok : FOk C F H g) {v : V} (r : RP C.K F H v z) : Q v H := q v H F ok.refl r
theorem rRes.tup {C : Ctx} {F : Fz} {H : Hp} {g : Nat} {ds : List PyData} {xs : List V} {Q : VK} (q : rRes C F H g (.tuple ds) Q) (ok : FOk C F H g) (r : RPs C.K F H xs ds) (p : Addr) (hp : H p = none) : Q (.ref p) (upd H p (.tup xs)) :=
  q _ _ _ (ok.alloc _ hp) (.tup (SqT.of upd_same) (r.mono ((ok.alloc _ hp).ext ok)))
theorem rRes.lst {C : Ctx} {F : Fz} {H : Hp} {g : Nat} {ds : List PyData} {xs : List V} {Q : VK} (q : rRes C F H g (.list ds) Q) (ok : FOk C F H g) (r : RPs C.K F H xs ds) (p : Addr) (hp : H p = none) : Q (.ref p) (upd H p (.lst xs)) :=
  q _ _ _ (ok.allocF _ hp) (.lst (.inr rfl) upd_same (r.mono ((ok.allocF _ hp).ext ok)))
theorem le_line {n : Nat} (h : okLen n = true) : n ≤ sizeLine := by rw [sizeLine_eq]; exact of_decide_eq_true h
def opBin : OpB → Operator
  | .add => .Add
  | .sub => .Sub
  | .mul => .Mult
def rB (C : Ctx) (o : OpB) : R2 := fun x y H Q => ∃ F g dx dy z, FOk C F H g ∧ TV C F H x dx ∧ TV C F H y dy ∧ binS o dx dy = some z ∧ rRes C F H g z Q
section
variable {X : Cx} {C : Ctx}
theorem op_bin (hK : X.K = C.K) (o : OpB) : OpR X (binaryOp (opBin o)) (rB C o) := by
  intro pins s σ H x y v u Q I rx ry ⟨F, g, dx, dy, z, ok, tx, ty, e, q⟩
  cases dx with
  | d dx =>
    cases dy with
    | d dy =>
      cases o with
      | add =>
        have e : addS dx dy = some z := e
        unfold addS at e
        split at e
        · cases e
          exact op_add pins s σ H x y v u Q I rx ry ⟨_, _, tx.int, ty.int, q.now ok (.int _)⟩
        · rename_i xs ys
          split at e
          · rename_i hl
            cases e
            obtain ⟨a, vs, rfl, h1, r1⟩ := tx.tup
            obtain ⟨b, ws, rfl, h2, r2⟩ := ty.tup
            have hl : vs.length + ws.length ≤ sizeLine := by rw [r1.length, r2.length]; exact le_line hl
            refine op_catA pins s σ H _ _ v u Q I rx ry ⟨a, b, vs, ws, rfl, rfl, by rw [hK]; exact h1, by rw [hK]; exact h2, hl, fun z => ?_, fun _ z => ?_, fun _ _ p hp => q.tup ok (r1.append r2) p hp⟩
            · subst z
              cases r1
              exact q.now ok (.tup h2 r2)
            · subst z
              cases r2
              exact q.now ok (by rw [List.append_nil]; exact .tup h1 r1)
          · cases e
        · rename_i xs ys
          split at e
          · rename_i hl
            cases e
            obtain ⟨a, vs, rfl, h1, r1⟩ := tx.list
            obtain ⟨b, ws, rfl, h2, r2⟩ := ty.list
            have hl : vs.length + ws.length ≤ sizeLine := by rw [r1.length, r2.length]; exact le_line hl
            exact op_cat pins s σ H _ _ v u Q I rx ry ⟨a, b, vs, ws, rfl, rfl, h1, h2, hl, fun p hp => q.lst ok (r1.append r2) p hp⟩
          · cases e
        · cases e
      | sub =>
        have e : subS dx dy = some z := e
        unfold subS at e
        split at e
        · cases e
          exact op_sub pins s σ H x y v u Q I rx ry ⟨_, _, tx.int, ty.int, q.now ok (.int _)⟩
        · cases e
      | mul =>
        have e : mulS dx dy = some z := e
        unfold mulS at e
        split at e
        · split at e
          · rename_i hc
            cases e
            refine op_mul pins s σ H x y v u Q I rx ry ⟨_, _, tx.int, ty.int, ?_, q.now ok (.int _)⟩
            simp only [Bool.or_eq_true, Bool.and_eq_true, decide_eq_true_eq] at hc
            exact hc
          · cases e
        · rename_i xs k _
          split at e
          · rename_i hc
            cases e
            simp only [Bool.and_eq_true, decide_eq_true_eq] at hc
            obtain ⟨⟨h2, h3⟩, h4⟩ := hc
            obtain ⟨a, vs, rfl, h1, r1⟩ := tx.tup
            by_cases h0 : vs = []
            · subst h0
              cases r1
              refine op_repE pins s σ H _ _ v u Q I rx ry ⟨a, k, rfl, ty.int, by rw [hK]; exact h1, h2, h3, ?_⟩
              have e0 : (List.replicate k.toNat ([] : List PyData)).flatten = [] := by simp
              rw [e0] at q
              exact q.now ok (.tup h1 .nil)
            refine op_repT pins s σ H _ _ v u Q I rx ry ⟨a, k, vs, rfl, ty.int, by rw [hK]; exact h1, h0, h2, h3, by rw [r1.length]; exact h4, fun p hp => q.tup ok ?_ p hp⟩
            generalize k.toNat = m
            induction m with
            | zero => exact .nil
            | succ m ih => rw [List.replicate_succ, List.replicate_succ, List.flatten_cons, List.flatten_cons]; exact r1.append ih
          · cases e
        · cases e
    | sta => cases o <;> cases e
    | scr n => cases o <;> cases e
    | exc c fs => cases o <;> cases e
  | sta => cases o <;> cases e
  | scr n => cases o <;> cases e
  | exc c fs => cases o <;> cases e

theorem inS_some {x : PyData} {ys : List PyData} {b : Bool} (h : inS x ys = some b) : (x.canLay0 = true ∧ PyData.canLayAll0 ys = true ∧ PyData.depthAll ys ≤ 63) ∧ b = ys.any fun z => PyData.eqv z x := by
  unfold inS at h
  split at h
  · rename_i hs
    rw [Bool.and_eq_true] at hs
    have h1 := SeqAt.canLay_of_shaped hs.2
    have h2 := SeqAt.depth_of_shaped hs.2
    simp only [PyData.canLay0] at h1
    simp only [PyData.depth] at h2
    exact ⟨⟨SeqAt.canLay_of_shaped hs.1, h1, by omega⟩, (Option.some.inj h).symm⟩
  · cases h
theorem room_in {A : Around} {n m : Nat} (h : n ≤ 63) (hu : A.units + 65 < cLine) : A.units + 1 + min n m < cLine := by
  have := Nat.min_le_left n m
  omega
def opCmp : OpC → CmpOp
  | .eq => .Eq
  | .ne => .NotEq
  | .lt => .Lt
  | .le => .LtE
  | .gt => .Gt
  | .ge => .GtE
  | .is => .Is
  | .isnot => .IsNot
  | .isin => .In
  | .notin => .NotIn
def rC (C : Ctx) (o : OpC) : R2 := fun x y H Q => ∃ F g dx dy z, FOk C F H g ∧ TV C F H x dx ∧ TV C F H y dy ∧ cmpS o dx dy = some z ∧ Q (.bl z) H
theorem str_dict_declines (b : Str) (u : Tok) (l : Addr) (o : Obj) (es : Array DictEntry) (ep : Nat) (hd : o.data = .dict es ep) :
    Meets (Builtin.«str.__eq__» ⟨[.str b u, .ref l], []⟩) (fun _ R s => s.heap.get? l = some o ∧ R (.ok (.ret .notImplemented)) s) :=
  .of_wp fun prog w A R s h => by
    obtain ⟨hp, g, d, tk, os⟩ := s
    obtain ⟨hl, h⟩ := h
    obtain ⟨c, di, da, sl⟩ := o
    subst hd
    wp_walk using wpAny_loadPart' hl
    exact ⟨_, rfl, h⟩
theorem dict_str {prog : Program} {w : World} {A : Around} {E : Value → Shared → Prop} {s : Shared} {l : Addr} {o : Obj} {es : Array DictEntry} {ep : Nat} {b : Str} {u : Tok} {Q : Value → Shared → Prop}
    (ho : s.heap.get? l = some o) (hx : o.ExactDict) (hd : o.data = .dict es ep) (hu : A.units < cLine) (h : Q (.bool false) s) : wpAny (model prog w) A (compareOp .Eq (.ref l) (.str b u)) Q E s := by
  show wpAny _ _ (richCompare .Eq _ _) _ _ _
  have ty : s.TypeIs (.ref l) "dict" := ⟨o, ho, hx.1⟩
  refine SeqAt.rc_eq_decline_or (k := false) ty (typeIs_str s b u) (by decide) F.sub_str_dict F.slot_dict_eq F.slot_str_eq_refl (fun Q' hq => ?_) (fun Q' hq => ?_) (fun _ hq => wpAny_of_eq (rfl : isSame (.ref l) (.str b u) = pure false) hq) (.inr hu) h
  · refine wpAny_call_entry F.slot_dict_eq ty F.entry_dict_eq ?_ (F.args_dict_eq_2 _ _)
    show wpAny _ _ (Builtin.Dict.dictSlotArgs "__eq__" ⟨[.ref l, .str b u], []⟩ >>= _) _ _ s
    refine wpAny_bind ?_
    unfold Builtin.Dict.dictSlotArgs
    refine wpAny_bind (wpAny_notOrdered_dict ty ?_)
    show wpAny _ _ (pure (Value.ref l, Value.str b u)) _ _ s
    refine wpAny_pure ?_
    refine wpAny_bind (wpAny_isInstance (T := "str") (typeIs_str s b u) F.sub_str_dict ?_)
    exact wpAny_bind (wpAny_rule (wpAny_pure ⟨_, rfl, hq⟩))
  · refine call_meets F.slot_str_eq_refl (typeIs_str s b u) F.entry_str_eq (F.args_str_eq_2 _ _) (str_dict_declines b u l o es ep hd) ⟨ho, hq⟩
theorem op_cmp (hK : X.K = C.K) (ks : KSys X.base) (hu : X.A.units + 65 < cLine) (o : OpC) : OpR X (compareOp (opCmp o)) (rC C o) := by
  intro pins s σ H x y v u Q I rx ry ⟨F, g, dx, dy, z, ok, tx, ty, e, q⟩
  unfold cmpS at e
  split at e
  · cases e
    have hx := tx.data (fun _ => nofun)
    cases hx with
    | dic h1 h2 =>
      cases rx
      obtain ⟨t, rfl⟩ : RelV (.str _) u := by rw [← ty.str]; exact ry
      obtain ⟨_, _, vs, kv, o, es, ep, ho, ex, hd, _, he, _⟩ := I.hok _ _ h2
      exact dict_str ho ex hd (by omega) ⟨.bl _, H, I, rfl, q⟩
  · unfold eqS at e
    split at e
    · rename_i hs
      cases e
      rw [Bool.and_eq_true] at hs
      obtain ⟨as, r1, _⟩ := tx.reads hK I ks rx
      obtain ⟨bs, r2, _⟩ := ty.reads hK I ks ry
      exact SeqAt.compareEq_shaped r1 r2 hs.1 hs.2 (by omega) ⟨.bl _, H, I, rfl, q⟩
    · cases e
  · rename_i dx dy
    rw [Option.map_eq_some_iff] at e
    obtain ⟨z', e, rfl⟩ := e
    unfold eqS at e
    split at e
    · rename_i hs
      cases e
      rw [Bool.and_eq_true] at hs
      obtain ⟨as, r1, _⟩ := tx.reads hK I ks rx
      obtain ⟨bs, r2, _⟩ := ty.reads hK I ks ry
      exact SeqAt.compareNe_shaped r1 r2 hs.1 hs.2 (by omega) ⟨.bl _, H, I, rfl, q⟩
    · cases e
  · cases e; exact op_lt pins s σ H x y v u Q I rx ry ⟨_, _, tx.int, ty.int, q⟩
  · cases e; exact op_le pins s σ H x y v u Q I rx ry ⟨_, _, tx.int, ty.int, q⟩
  · cases e; exact op_gt pins s σ H x y v u Q I rx ry ⟨_, _, tx.int, ty.int, q⟩
  · cases e; exact op_ge pins s σ H x y v u Q I rx ry ⟨_, _, tx.int, ty.int, q⟩
  · cases e; exact op_isN pins s σ H x y v u Q I rx ry ⟨ty.non, by rw [decide_eq_true tx.non]; exact q⟩
  · rename_i hn
    cases e
    exact op_isN pins s σ H x y v u Q I rx ry ⟨ty.non, by rw [decide_eq_false (fun z => hn (tx.isNon.mp z))]; exact q⟩
  · cases e; exact op_notN pins s σ H x y v u Q I rx ry ⟨ty.non, by rw [decide_eq_true tx.non]; exact q⟩
  · rename_i hn
    cases e
    exact op_notN pins s σ H x y v u Q I rx ry ⟨ty.non, by rw [decide_eq_false (fun z => hn (tx.isNon.mp z))]; exact q⟩
  · rename_i dx ys
    obtain ⟨hs, e⟩ := inS_some e
    subst e
    obtain ⟨as, r1, _⟩ := tx.reads hK I ks rx
    obtain ⟨bs, r2, _⟩ := ty.reads hK I ks ry
    exact SeqAt.in_tuple_reads r2 r1 hs.2.1 hs.1 (room_in hs.2.2 hu) ⟨.bl _, H, I, rfl, q⟩
  · rename_i dx ys
    obtain ⟨hs, e⟩ := inS_some e
    subst e
    obtain ⟨as, r1, _⟩ := tx.reads hK I ks rx
    obtain ⟨bs, r2, _⟩ := ty.reads hK I ks ry
    exact SeqAt.in_list_reads r2 r1 hs.2.1 hs.1 (room_in hs.2.2 hu) ⟨.bl _, H, I, rfl, q⟩
  · rename_i dx ys
    rw [Option.map_eq_some_iff] at e
    obtain ⟨z', e, rfl⟩ := e
    obtain ⟨hs, e⟩ := inS_some e
    subst e
    obtain ⟨as, r1, _⟩ := tx.reads hK I ks rx
    obtain ⟨bs, r2, _⟩ := ty.reads hK I ks ry
    exact SeqAt.notIn_tuple_reads r2 r1 hs.2.1 hs.1 (room_in hs.2.2 hu) ⟨.bl _, H, I, rfl, q⟩
  · rename_i dx ys
    rw [Option.map_eq_some_iff] at e
    obtain ⟨z', e, rfl⟩ := e
    obtain ⟨hs, e⟩ := inS_some e
    subst e
    obtain ⟨as, r1, _⟩ := tx.reads hK I ks rx
    obtain ⟨bs, r2, _⟩ := ty.reads hK I ks ry
    exact SeqAt.notIn_list_reads r2 r1 hs.2.1 hs.1 (room_in hs.2.2 hu) ⟨.bl _, H, I, rfl, q⟩
  · cases e
end
end NC

set_option Elab.async false
set_option linter.all false
set_option maxRecDepth 100000
set_option maxHeartbeats 2000000
namespace NC
open PySem PySem.Spec PyProof.Rows L2
theorem RPs.atI {K : PySem.W.Frag} {F : Fz} {H : Hp} {vs : List V} {ds : List PyData} (r : RPs K F H vs ds) {i : Int} {d : PyData} (h : L2.atI ds i = some d) : ∃ v, L2.atI vs i = some v ∧ RP K F H v d := by
  unfold L2.atI at h ⊢
  rw [r.length]
  rw [Option.bind_eq_some_iff] at h
  obtain ⟨j, e, h⟩ := h
  obtain ⟨v, h1, h2⟩ := r.get h
  exact ⟨v, by rw [e]; exact h1, h2⟩
theorem RPs.cut {K : PySem.W.Frag} {F : Fz} {H : Hp} {vs : List V} {ds : List PyData} (r : RPs K F H vs ds) (lo hi : Option Int) : RPs K F H (cutV vs lo hi) (cutD ds lo hi) := by
  unfold cutV cutD
  rw [r.length]
  exact (r.drop _).take _
theorem cut_whole {xs : List PyData} {lo hi : Option Int} (h : HT.sIx xs.length 0 lo = 0 ∧ HT.sIx xs.length xs.length hi = xs.length) : cutD xs lo hi = xs := by
  unfold cutD
  rw [h.1, h.2, List.drop_zero, Nat.sub_zero, List.take_length]
section
variable {X : Cx} {C : Ctx}
def rI (C : Ctx) : R2 := fun x y H Q => ∃ F g dx dy z, FOk C F H g ∧ TV C F H x dx ∧ TV C F H y dy ∧ atS dx dy = some z ∧ ∀ v, RP C.K F H v z → Q v H
theorem ix_at (hK : X.K = C.K) : IxR X (rI C) := by
  intro value slice pins s σ H x y v u Q I rx ry ⟨F, g, dx, dy, z, ok, tx, ty, e, q⟩ hs
  unfold atS at e
  split at e
  · obtain ⟨a, vs, rfl, h1, r1⟩ := tx.tup
    obtain ⟨w, h2, r2⟩ := r1.atI e
    exact ix_tup value slice pins s σ H _ y v u Q I rx ry ⟨a, vs, _, w, rfl, ty.int, by rw [hK]; exact h1, h2, q w r2⟩ hs
  · obtain ⟨a, vs, rfl, h1, r1⟩ := tx.list
    obtain ⟨w, h2, r2⟩ := r1.atI e
    exact ix_list value slice pins s σ H _ y v u Q I rx ry ⟨a, vs, _, w, rfl, ty.int, SqL.of h1, h2, q w r2⟩ hs
  · cases e
def rSl (C : Ctx) : V → Option Int → Option Int → Hp → VK → Prop := fun x lo hi H Q => ∃ F g dx z, FOk C F H g ∧ TV C F H x dx ∧ cutS dx lo hi = some z ∧ rRes C F H g z Q
theorem sl_cut (hK : X.K = C.K) : SlR X (rSl C) := by
  intro pins s σ H x v vl vu lo hi sl Q I rx hs pl pu ⟨F, g, dx, z, ok, tx, e, q⟩
  unfold cutS at e
  split at e
  · cases e
    obtain ⟨a, vs, rfl, h1, r1⟩ := tx.tup
    refine sl_tupA pins s σ H _ v vl vu _ _ sl Q I rx hs pl pu ⟨a, vs, rfl, by rw [hK]; exact h1, fun h => q.now ok ?_, fun _ p hp => q.tup ok (r1.cut _ _) p hp⟩
    rw [cut_whole (by rw [r1.length] at h; exact h)]
    exact .tup h1 r1
  · cases e
    obtain ⟨a, vs, rfl, h1, r1⟩ := tx.list
    exact sl_list pins s σ H _ v vl vu _ _ sl Q I rx hs pl pu ⟨a, vs, rfl, SqL.of h1, fun p hp => q.lst ok (r1.cut _ _) p hp⟩
  · cases e
abbrev TVs (C : Ctx) (F : Fz) (H : Hp) : List V → List VD → Prop := Paired (TV C F H)
def bltV : Blt → Value
  | .len => .builtin "len"
  | .repr => .builtin "repr"
  | .list => .type "list"
  | .tuple => .type "tuple"
  | .min2 => .builtin "min"
def rBl (C : Ctx) (b : Blt) : List V → Hp → VK → Prop := fun vs H Q => ∃ F g ds z, FOk C F H g ∧ TVs C F H vs ds ∧ bltS b ds = some z ∧ rRes C F H g z Q
theorem scr_len {F : Fz} {H : Hp} {v : V} {n : Nat} (h : TV C F H v (.scr n)) : ∃ a xs, v = .ref a ∧ SqL C.K H a xs ∧ xs.length = n := by
  rcases h with ⟨a, xs, e, h, l⟩ | ⟨_, _, _, _, e, _⟩
  · refine ⟨a, xs, e, ?_, l⟩
    rcases h with h | h
    · exact .inl (.inr h)
    · rcases h with (h | ⟨_, h⟩) | h
      · cases h
      · cases h
      · exact .inr h
  · cases e
theorem pd_one {C : Ctx} {F : Fz} {H : Hp} {vs : List V} {d : VD} (h : TVs C F H vs [d]) : ∃ v, vs = [v] ∧ TV C F H v d := by
  cases h with
  | cons a b => cases b; exact ⟨_, rfl, a⟩
theorem pd_two {C : Ctx} {F : Fz} {H : Hp} {vs : List V} {d e : VD} (h : TVs C F H vs [d, e]) : ∃ v w, vs = [v, w] ∧ TV C F H v d ∧ TV C F H w e := by
  cases h with
  | cons a b => cases b with | cons c d => cases d; exact ⟨_, _, rfl, a, c⟩
theorem repr_ok (hK : X.K = C.K) (ks : KSys X.base) (quiet : X.A.guards = some []) (hu : X.A.units + 70 < cLine) {pins : List (Addr × Obj)} {s : Shared} {σ : L2.St} {H : Hp} {F : Fz} {v : V} {u : Value} {d : PyData} {Q : VK} (I : Inv X pins σ H s)
    (t : TV C F H v (.d d)) (r : RelV v u) (h1 : d.showable = true) (h2 : d.depth ≤ 60) (h3 : d.shown.length ≤ sizeLine) (q : Q (.str d.shown) H) : wpAny (model X.prog X.w) X.A (call (.builtin "repr") [u]) (EP X pins σ Q) X.xe s := by
  have big : ∀ a, v = .ref a → wpAny (model X.prog X.w) X.A (call (.builtin "repr") [u]) (EP X pins σ Q) X.xe s := fun a ha => by
    obtain ⟨as, r1, ns⟩ := t.reads hK I ks r
    subst ha
    cases r
    exact repr_of_reads' r1 h1 (fun _ => ns) quiet (by omega) (fun _ _ e => e) (fun h' u' tk hk => ⟨.str d.shown, H, I.kept (t' := tk) hk, ⟨_, rfl⟩, q⟩) h3
  cases d with
  | none =>
    have e := t.non; subst e; cases r
    exact PySem.P.repr_of_none ⟨.str _, H, I.tok _, ⟨_, rfl⟩, q⟩
  | bool b =>
    have e := t.bool; subst e; cases r
    exact PySem.P.repr_of_bool ⟨.str _, H, I.tok _, ⟨_, rfl⟩, by cases b <;> exact q⟩
  | int i =>
    have e := t.int; subst e; obtain ⟨tk, rfl⟩ := r
    exact PySem.P.repr_of_int (of_decide_eq_true h1) ⟨.str _, H, I.tok _, ⟨_, rfl⟩, q⟩
  | str x =>
    have e := t.str; subst e; obtain ⟨tk, rfl⟩ := r
    exact PySem.P.repr_of_str ⟨.str _, H, I.tok _, ⟨_, rfl⟩, q⟩ h3
  | list ds => obtain ⟨a, _, e, _⟩ := t.list; exact big a e
  | tuple ds => obtain ⟨a, _, e, _⟩ := t.tup; exact big a e
  | dict kvs =>
    cases t.data (fun _ => nofun) with
    | dic _ _ => exact big _ rfl
theorem call_blt (hK : X.K = C.K) (ks : KSys X.base) (calm : X.calm = true) (quiet : X.A.guards = some []) (hu : X.A.units + 70 < cLine) (b : Blt) : CallR X (bltV b) (rBl C b) := by
  intro pins s σ H xs us Q I rx ⟨F, g, ds, z, ok, t, e, q⟩
  unfold bltS at e
  split at e
  · cases e
    obtain ⟨v, rfl, tt⟩ := pd_one t
    obtain ⟨a, vs, rfl, h1, r1⟩ := tt.tup
    exact call_len pins s σ H _ us Q I rx ⟨_, _, rfl, .inr ⟨_, by rw [hK]; exact h1, rfl⟩, by rw [r1.length]; exact q.now ok (.int _)⟩
  · cases e
    obtain ⟨v, rfl, tt⟩ := pd_one t
    obtain ⟨a, vs, rfl, h1, r1⟩ := scr_len tt
    exact call_len pins s σ H _ us Q I rx ⟨_, _, rfl, .inl ⟨_, by rw [hK]; exact h1, rfl⟩, by rw [r1]; exact q.now ok (.int _)⟩
  · cases e
    obtain ⟨v, rfl, tt⟩ := pd_one t
    obtain ⟨a, vs, rfl, h1, r1⟩ := tt.list
    exact call_len pins s σ H _ us Q I rx ⟨_, _, rfl, .inl ⟨_, SqL.of h1, rfl⟩, by rw [r1.length]; exact q.now ok (.int _)⟩
  · split at e
    · rename_i hl
      cases e
      obtain ⟨v, rfl, tt⟩ := pd_one t
      have e := tt.str
      subst e
      exact call_len pins s σ H _ us Q I rx ⟨_, _, rfl, ⟨le_line hl, rfl⟩, q.now ok (.int _)⟩
    · cases e
  · split at e
    · rename_i hc
      cases e
      simp only [Bool.and_eq_true, decide_eq_true_eq] at hc
      obtain ⟨v, rfl, tt⟩ := pd_one t
      obtain ⟨u, rfl, r⟩ := Vals.one rx
      exact repr_ok hK ks quiet hu I tt r hc.1.1 hc.1.2 (le_line hc.2) (q.now ok (.str _))
    · cases e
  · cases e
    obtain ⟨v, rfl, tt⟩ := pd_one t
    obtain ⟨a, vs, rfl, h1, r1⟩ := tt.tup
    exact call_list_of pins s σ H _ us Q I rx ⟨a, vs, rfl, .inr (by rw [hK]; exact h1), fun p hp => q.lst ok r1 p hp⟩
  · cases e
    obtain ⟨v, rfl, tt⟩ := pd_one t
    obtain ⟨a, vs, rfl, h1, r1⟩ := tt.list
    exact call_list_of pins s σ H _ us Q I rx ⟨a, vs, rfl, .inl (SqL.of h1), fun p hp => q.lst ok r1 p hp⟩
  · cases e
    obtain ⟨v, rfl, tt⟩ := pd_one t
    obtain ⟨a, vs, rfl, h1, r1⟩ := tt.tup
    exact call_tuple_of pins s σ H _ us Q I rx ⟨a, vs, rfl, .inr ⟨by rw [hK]; exact h1, q.now ok (.tup h1 r1)⟩⟩
  · cases e
    obtain ⟨v, rfl, tt⟩ := pd_one t
    obtain ⟨a, vs, rfl, h1, r1⟩ := tt.list
    exact call_tuple_of pins s σ H _ us Q I rx ⟨a, vs, rfl, .inl ⟨SqL.of h1, fun p hp => q.tup ok r1 p hp⟩⟩
  · cases e
    obtain ⟨v, w, rfl, t1, t2⟩ := pd_two t
    have e1 := t1.int
    have e2 := t2.int
    subst e1 e2
    exact call_min2 calm pins s σ H _ us Q I rx ⟨_, _, rfl, q.now ok (.int _)⟩
  · cases e
end
end NC

set_option Elab.async false
set_option linter.all false
set_option maxRecDepth 100000
set_option maxHeartbeats 4000000
namespace NC
open PySem PySem.Spec PyProof.Rows L2
/-! ### is a text of the program this text of the small language? -/
mutual
def pdB : PyData → PyData → Bool
  | .none, .none => true
  | .bool a, .bool b => decide (a = b)
  | .int a, .int b => decide (a = b)
  | .str a, .str b => decide (a = b)
  | .list a, .list b => pdBs a b
  | .tuple a, .tuple b => pdBs a b
  | _, _ => false
def pdBs : List PyData → List PyData → Bool
  | [], [] => true
  | a :: r, b :: t => pdB a b && pdBs r t
  | _, _ => false
end
mutual
theorem pdB_eq : ∀ {a b : PyData}, pdB a b = true → a = b
  | .none, b, h => by cases b <;> first | rfl | cases h
  | .bool a, b, h => by cases b <;> first | (rw [of_decide_eq_true h]) | cases h
  | .int a, b, h => by cases b <;> first | (rw [of_decide_eq_true h]) | cases h
  | .str a, b, h => by cases b <;> first | (rw [of_decide_eq_true h]) | cases h
  | .list a, b, h => by cases b <;> first | (rw [pdBs_eq h]) | cases h
  | .tuple a, b, h => by cases b <;> first | (rw [pdBs_eq h]) | cases h
  | .dict a, b, h => by cases b <;> cases h
theorem pdBs_eq : ∀ {a b : List PyData}, pdBs a b = true → a = b
  | [], b, h => by cases b <;> first | rfl | cases h
  | x :: r, b, h => by
    cases b with
    | nil => cases h
    | cons y t =>
      have h : (pdB x y && pdBs r t) = true := h
      rw [Bool.and_eq_true] at h
      rw [pdB_eq h.1, pdBs_eq h.2]
end
structure Gam where
  fnm : List Str
  cnm : List Str
  con : List (Str × PyData)
  fld : List Str
  rsl : List (Nat × Str)
def visB (sc : Scope) (x : Str) : Bool := match sc.names.lookup x with
  | some .local => true
  | some .cell => true
  | some .free => true
  | _ => false
def locB (sc : Scope) (x : Str) : Bool := match sc.names.lookup x with
  | some .local => true
  | some .cell => true
  | _ => false
def glB (sc : Scope) (x : Str) : Bool := match sc.names.lookup x with
  | some .globalImplicit => true
  | _ => false
def nmB (x : Str) : Bool := !(x == ("__debug__" : Str)) && !(x == ("__classdict__" : Str)) && !(x == ("__name__" : Str))
def starB : Expr → Bool
  | .Starred _ _ => true
  | _ => false
def sliceB : Expr → Bool
  | .Slice _ _ _ _ => true
  | _ => false
/-- a test that is a value's truth -/
def plainB : Expr → Bool
  | .Name _ _ => true
  | .Call _ _ _ _ => true
  | .Subscript _ _ _ => true
  | .Constant _ _ _ => true
  | _ => false
def cstB : PyData → Const → Bool
  | .none, .none => true
  | .bool a, .bool b => decide (a = b)
  | .int a, .int b => decide (a = b)
  | .str a, .str b => decide (a = b)
  | _, _ => false
def opBB : OpB → Operator → Bool
  | .add, .Add => true
  | .sub, .Sub => true
  | .mul, .Mult => true
  | _, _ => false
def opCB : OpC → CmpOp → Bool
  | .eq, .Eq => true
  | .ne, .NotEq => true
  | .lt, .Lt => true
  | .le, .LtE => true
  | .gt, .Gt => true
  | .ge, .GtE => true
  | .is, .Is => true
  | .isnot, .IsNot => true
  | .isin, .In => true
  | .notin, .NotIn => true
  | _, _ => false
def tyNames : List String := ["str", "tuple", "int", "bool", "list", "dict"]
def bltN : Blt → Str
  | .len => "len"
  | .repr => "repr"
  | .list => "list"
  | .tuple => "tuple"
  | .min2 => "min"
theorem opBB_eq {o : OpB} {p : Operator} (h : opBB o p = true) : p = opBin o := by cases o <;> cases p <;> first | rfl | cases h
theorem opCB_eq {o : OpC} {p : CmpOp} (h : opCB o p = true) : p = opCmp o := by cases o <;> cases p <;> first | rfl | cases h
theorem vis_of {sc : Scope} {x : Str} (h : visB sc x = true) : Vis sc x := by
  unfold visB at h
  split at h
  · exact .inl (by assumption)
  · exact .inr (.inl (by assumption))
  · exact .inr (.inr (by assumption))
  · cases h
theorem loc_of {sc : Scope} {x : Str} (h : locB sc x = true) : Loc sc x := by
  unfold locB at h
  split at h
  · exact .inl (by assumption)
  · exact .inr (by assumption)
  · cases h
theorem gl_of {X : Cx} {x : Str} (h : glB X.env.scope x = true) : Gl X x := by
  unfold glB at h
  split at h
  · assumption
  · cases h
theorem nm_of {x : Str} (h : nmB x = true) : (x == ("__debug__" : Str)) = false ∧ (x == ("__classdict__" : Str)) = false ∧ x ≠ "__name__" := by
  unfold nmB at h
  simp only [Bool.and_eq_true, Bool.not_eq_true'] at h
  exact ⟨h.1.1, h.1.2, fun z => by subst z; have := h.2; simp at this⟩
theorem star_cons {e : Expr} (h : starB e = false) (es : List Expr) (env : PySem.Env) : starEach (e :: es) env = (false, eval e env) :: starEach es env := by
  cases e <;> first | rfl | cases h
theorem star_any : ∀ {es : List Expr} (h : es.any starB = false) (pos : Pos) (env : PySem.Env), (backTo pos (starEach es env)).any (·.1) = false
  | [], _, _, _ => rfl
  | e :: es, h, pos, env => by
    rw [List.any_cons, Bool.or_eq_false_iff] at h
    rw [star_cons h.1]
    show (false || (backTo pos (starEach es env)).any (·.1)) = false
    rw [star_any h.2, Bool.or_false]

def tupB : Expr → Bool
  | .Tuple _ _ _ => true
  | _ => false
def setB : Expr → Bool
  | .Set _ _ _ => true
  | _ => false
def blkT (scope sc : Scope) (x : Str) : Bool := match (relS scope sc).names.lookup x with
  | some .local => true
  | some .cell => decide (scope.names.lookup x = some .cell)
  | _ => false
/-! ### views of texts -/
def vCall1 : Expr → Option (Str × Expr)
  | .Call (.Name f _) [x] [] _ => some (f, x)
  | _ => none
def vCall2 : Expr → Option (Str × Expr × Expr)
  | .Call (.Name f _) [x, y] [] _ => some (f, x, y)
  | _ => none
def vSubK : Expr → Option (Str × Const)
  | .Subscript (.Name x _) (.Constant c _ _) _ => some (x, c)
  | _ => none
def vAsgN : Stmt → Option (Str × Expr)
  | .Assign [.Name x _] e _ => some (x, e)
  | _ => none
def vAsgK : Stmt → Option (Str × Const × Expr)
  | .Assign [.Subscript (.Name x _) (.Constant c _ _) _] e _ => some (x, c, e)
  | _ => none
def vAsgS : Stmt → Option (Expr × Expr × Expr)
  | .Assign [.Subscript x y _] e _ => some (x, y, e)
  | _ => none
theorem vCall1_inv {e : Expr} {f : Str} {x : Expr} (h : vCall1 e = some (f, x)) : ∃ p pos, e = .Call (.Name f p) [x] [] pos := by
  unfold vCall1 at h
  split at h
  · cases h; exact ⟨_, _, rfl⟩
  · cases h
theorem vCall2_inv {e : Expr} {f : Str} {x y : Expr} (h : vCall2 e = some (f, x, y)) : ∃ p pos, e = .Call (.Name f p) [x, y] [] pos := by
  unfold vCall2 at h
  split at h
  · cases h; exact ⟨_, _, rfl⟩
  · cases h
theorem vSubK_inv {e : Expr} {x : Str} {c : Const} (h : vSubK e = some (x, c)) : ∃ p q r pos, e = .Subscript (.Name x p) (.Constant c q r) pos := by
  unfold vSubK at h
  split at h
  · cases h; exact ⟨_, _, _, _, rfl⟩
  · cases h
theorem vAsgN_inv {s : Stmt} {x : Str} {e : Expr} (h : vAsgN s = some (x, e)) : ∃ p pos, s = .Assign [.Name x p] e pos := by
  unfold vAsgN at h
  split at h
  · cases h; exact ⟨_, _, rfl⟩
  · cases h
theorem vAsgK_inv {s : Stmt} {x : Str} {c : Const} {e : Expr} (h : vAsgK s = some (x, c, e)) : ∃ p q r t pos, s = .Assign [.Subscript (.Name x p) (.Constant c q r) t] e pos := by
  unfold vAsgK at h
  split at h
  · cases h; exact ⟨_, _, _, _, _, rfl⟩
  · cases h
theorem vAsgS_inv {s : Stmt} {x y e : Expr} (h : vAsgS s = some (x, y, e)) : ∃ p pos, s = .Assign [.Subscript x y p] e pos := by
  unfold vAsgS at h
  split at h
  · cases h; exact ⟨_, _, rfl⟩
  · cases h
def vCnt : Expr → Option (Expr × Expr × Str × Expr × Bool)
  | .Call (.Attribute (.Subscript y (.Slice none (some z) none _) _) m apos) [u] [] cpos => some (y, z, m, u, apos.endLine == cpos.line)
  | _ => none
theorem vCnt_inv {e y z u : Expr} {m : Str} {l : Bool} (h : vCnt e = some (y, z, m, u, l)) : ∃ p q apos cpos, e = .Call (.Attribute (.Subscript y (.Slice none (some z) none p) q) m apos) [u] [] cpos ∧ (apos.endLine == cpos.line) = l := by
  unfold vCnt at h
  split at h
  · cases h; exact ⟨_, _, _, _, rfl, rfl⟩
  · cases h
section
variable (Γ : Gam) (N : List Str)
def tgB (ok : Str → Bool) : Tg → Expr → Bool
  | .name i, .Name x _ => ok x && decide (N[i]? = some x)
  | .pair i j, .Tuple [.Name x _, .Name y _] _ _ => ok x && decide (N[i]? = some x) && (ok y && decide (N[j]? = some y))
  | .trip i j k, .Tuple [.Name x _, .Name y _, .Name z _] _ _ => ok x && decide (N[i]? = some x) && (ok y && decide (N[j]? = some y)) && (ok z && decide (N[k]? = some z))
  | _, _ => false
def ownOf (is : List Nat) : List (Str × Nat) := is.map fun i => (N.getD i "", i)
mutual
def cE : Bool → Scope → E → Expr → Bool
  | _, sc, .var i, .Name x _ => visB sc x && decide (N[i]? = some x) && nmB x
  | pl, sc, .peek i, .Name x _ => pl && visB sc x && decide (N[i]? = some x) && nmB x
  | _, _, .cst d, .Constant c _ _ => cstB d c
  | _, sc, .glo x d, .Name y _ => decide (y = x) && glB sc x && nmB x && (Γ.con.any fun p => decide (p.1 = x) && pdB p.2 d)
  | _, sc, .tup es, .Tuple as _ _ => cEs false sc es as
  | _, sc, .lst es, .List as _ => cEs false sc es as
  | _, _, .dic, .Dict [] [] _ => true
  | _, sc, .bin o a b, .BinOp x op y _ => opBB o op && cE true sc a x && cE true sc b y
  | _, sc, .cmp o a b, .Compare x [op] [y] _ => opCB o op && !behindInMarks op y && cE true sc a x && cE true sc b y
  | _, sc, .and2 a b, .BoolOp .And (x :: y :: rest) pos => cE false sc a x && cE false sc b (.BoolOp .And (y :: rest) pos)
  | _, sc, .or2 a b, .BoolOp .Or (x :: y :: rest) pos => cE false sc a x && cE false sc b (.BoolOp .Or (y :: rest) pos)
  | _, sc, .one a, .BoolOp _ [x] _ => cE false sc a x
  | _, sc, .not1 a, .UnaryOp .Not x _ => cE false sc a x
  | _, sc, .ite t a b, .IfExp c x y _ => cT sc t c && cE false sc a x && cE false sc b y
  | _, sc, .sub a i, .Subscript x y _ => !sliceB y && cE true sc a x && cE true sc i y
  | _, sc, .sli a lo hi, .Subscript x (.Slice l h none _) _ => cE true sc a x && cO sc lo l && cO sc hi h
  | _, sc, .call f es, .Call (.Name x _) as [] _ => decide (Γ.fnm[f]? = some x) && glB sc x && nmB x && cEs false sc es as
  | _, sc, .blt b es, .Call (.Name x _) (a :: as) [] _ => decide (x = bltN b) && glB sc x && cEs true sc es (a :: as)
  | _, sc, .isi a t, .Call (.Name f _) [x, .Name y _] [] _ => decide (f = "isinstance") && glB sc f && decide (y = Str.ofString t) && glB sc y && decide (t ∈ tyNames) && cE true sc a x
  | _, sc, .draw i m, .Call (.Name f _) [.Name x _, e] [] _ => decide (f = "_law_draw") && glB sc f && visB sc x && decide (N[i]? = some x) && nmB x && !starB e && cE false sc m e
  | _, sc, .isx i c, .Call (.Name f _) [.Name x _, .Name y _] [] _ => decide (f = "isinstance") && glB sc f && visB sc x && decide (N[i]? = some x) && nmB x && decide (Γ.cnm[c]? = some y) && glB sc y && nmB y
  | _, sc, .fld i f, .Attribute (.Name x _) g _ => visB sc x && decide (N[i]? = some x) && nmB x && decide (f = g) && decide (f ∈ Γ.fld)
  | _, sc, .cnt a h x, e => match vCnt e with
    | some (y, z, m, u, l) => decide (m = "count") && l && cE true sc a y && cE true sc h z && !starB u && cE true sc x u
    | none => false
  | _, sc, .comp elt tg it t, .ListComp el [⟨tgt, iter, ifs, 0⟩] scope _ => blkC N sc scope (ownOf N tg.slots) && tgB N (blkT scope sc) tg tgt && cIt true sc tgt it iter && cTO (relS scope sc) t ifs && cE false (relS scope sc) elt el
  | _, _, _, _ => false
def cIt : Bool → Scope → Expr → It → Expr → Bool
  | pl, sc, _, .seq e, x => !setB x && cE pl sc e x
  | _, sc, _, .rng e, .Call (.Name f _) [x] [] _ => decide (f = "range") && glB sc f && !starB x && cE true sc e x
  | pl, sc, tg, .enum e, .Call (.Name f _) [x] [] _ => tupB tg && decide (f = "enumerate") && glB sc f && !starB x && cE pl sc e x
  | _, _, _, _, _ => false
def cTO : Scope → TO → List Expr → Bool
  | _, .non, [] => true
  | sc, .som t, [x] => cT sc t x
  | _, _, _ => false
def cEs : Bool → Scope → Es → List Expr → Bool
  | _, _, .nil, [] => true
  | pl, sc, .cons e r, x :: xs => !starB x && cE pl sc e x && cEs pl sc r xs
  | _, _, _, _ => false
def cO : Scope → O → Option Expr → Bool
  | _, .non, none => true
  | sc, .som e, some x => cE true sc e x
  | _, _, _ => false
def cT : Scope → T → Expr → Bool
  | sc, .val e, x => plainB x && cE true sc e x
  | sc, .cmp o a b, .Compare x [op] [y] _ => opCB o op && !behindInMarks op y && cE true sc a x && cE true sc b y
  | sc, .and2 a b, .BoolOp .And (x :: y :: rest) pos => cT sc a x && cT sc b (.BoolOp .And (y :: rest) pos)
  | sc, .or2 a b, .BoolOp .Or (x :: y :: rest) pos => cT sc a x && cT sc b (.BoolOp .Or (y :: rest) pos)
  | sc, .one a, .BoolOp _ [x] _ => cT sc a x
  | sc, .not1 a, .UnaryOp .Not x _ => cT sc a x
  | _, _, _ => false
end
end
end NC

set_option Elab.async false
set_option linter.all false
set_option maxRecDepth 100000
set_option maxHeartbeats 4000000
namespace NC
open PySem PySem.Spec PyProof.Rows L2
/-! ### readings -/
/-- an exception in the air -/
def XR (C : Ctx) (F : Fz) (H : Hp) (cls : Value) (d : Option Addr) (c : Nat) (fs : List (Str × PyData)) : Prop :=
  cls = .ref (C.cls c) ∧ ∃ dx vs, d = some dx ∧ F dx ∧ H dx = some (.xd vs) ∧ Paired (fun (p : Str × V) (q : Str × PyData) => p.1 = q.1 ∧ RP C.K F H p.2 q.2) vs fs
def RX (pl : Bool) (C : Ctx) (F : Fz) (H : Hp) (v : V) (x : VD) : Prop := if pl = true then TV C F H v x else RV C F H v x
theorem RX.tv {pl : Bool} {C : Ctx} {F : Fz} {H : Hp} {v : V} {x : VD} (h : RX pl C F H v x) : TV C F H v x := by
  cases pl
  · exact .inl h
  · exact h
theorem RX.of {pl : Bool} {C : Ctx} {F : Fz} {H : Hp} {v : V} {x : VD} (h : RV C F H v x) : RX pl C F H v x := by
  cases pl
  · exact h
  · exact .inl h
/-- the place: the context of a frame -/
structure Pl where
  C : Ctx
  H0 : Hp
  F0 : Fz
  W : WX
abbrev Mng (α : Type) := Env → Nat → (α → Nat → Prop) → XPost → Prop
/-- what is wanted of an exception, from (F, H) on, at the slots σ -/
def EX (P : Pl) (σ : L2.St) (F : Fz) (H : Hp) : XPost := fun c fs _ g' => ∀ cls d H' F', Grow P.C F H F' H' g' → XR P.C F' H' cls d c fs → P.W cls d σ H'
theorem EX.grow {P : Pl} {σ : L2.St} {F F1 : Fz} {H H1 : Hp} {g1 : Nat} (G : Grow P.C F H F1 H1 g1) {c fs δ g} (h : EX P σ F H c fs δ g) : EX P σ F1 H1 c fs δ g :=
  fun cls d H' F' G' x => h cls d H' F' (G.trans G') x
def tE (P : Pl) (pl : Bool) (m : Mng VD) : TE := fun σ H Q => ∃ δ F g, BI P.C P.H0 P.F0 δ σ H F g ∧ m δ g (fun r g' => ∀ v H' F', Grow P.C F H F' H' g' → RX pl P.C F' H' v r → Q v H') (EX P σ F H)
def tEs (P : Pl) (pl : Bool) (m : Mng (List VD)) : TA := fun σ H Q => ∃ δ F g, BI P.C P.H0 P.F0 δ σ H F g ∧ m δ g (fun r g' => ∀ v H' F', Grow P.C F H F' H' g' → Paired (RX pl P.C F' H') v r → Q v H') (EX P σ F H)
def tT (P : Pl) (m : Mng Bool) : TT := fun σ H Q => ∃ δ F g, BI P.C P.H0 P.F0 δ σ H F g ∧ m δ g (fun r g' => ∀ H' F', Grow P.C F H F' H' g' → Q r H') (EX P σ F H)
def tO (P : Pl) (m : Mng (Option Int)) : L2.TO := fun σ H Q => ∃ δ F g, BI P.C P.H0 P.F0 δ σ H F g ∧ m δ g (fun r g' => ∀ H' F', Grow P.C F H F' H' g' → Q r H') (EX P σ F H)
theorem PE.weak {X : Cx} {e : Expr} {t t' : TE} (h : PE X e t) (k : ∀ σ H Q, t' σ H Q → t σ H Q) : PE X e t' := ⟨fun pins s σ H Q I w => h.run pins s σ H Q I (k σ H Q w)⟩
theorem PT.weak {X : Cx} {e : Expr} {t t' : TT} (h : PT X e t) (k : ∀ σ H Q, t' σ H Q → t σ H Q) : PT X e t' := ⟨fun pins s σ H Q I w => h.run pins s σ H Q I (k σ H Q w)⟩
theorem PW.weak {X : Cx} {e : Expr} {t t' : TT} (h : PW X e t) (k : ∀ σ H Q, t' σ H Q → t σ H Q) : PW X e t' := ⟨fun wh pins s σ H Q I w => h.run wh pins s σ H Q I (k σ H Q w)⟩
theorem PA.weak {X : Cx} {e : List Expr} {t t' : TA} (h : PA X e t) (k : ∀ σ H Q, t' σ H Q → t σ H Q) : PA X e t' := ⟨fun pos pins s σ H Q I w => h.run pos pins s σ H Q I (k σ H Q w)⟩
theorem PO.weak {X : Cx} {e : Option Expr} {t t' : L2.TO} (h : PO X e t) (k : ∀ σ H Q, t' σ H Q → t σ H Q) : PO X e t' := ⟨fun pins s σ H Q I w => h.run pins s σ H Q I (k σ H Q w)⟩
/-! ### what the program's globals are -/
/-- what a function of the text promises -/
def spF (C : Ctx) (Φ : Calls) (f : Nat) : Sp := fun vs H Q E => ∃ F g ds, FOk C F H g ∧ RVs C F H vs ds ∧
  Φ f ds g (fun r g' => ∀ v H' F', Grow C F H F' H' g' → RV C F' H' v r → Q v H') (fun c fs g' => ∀ cls d H' F', Grow C F H F' H' g' → XR C F' H' cls d c fs → E cls d H')
/-- what a draw promises -/
def spD (C : Ctx) : Sp := fun vs H Q _ => ∃ F g m, FOk C F H g ∧ vs = [.ref C.st, .int m] ∧ 0 < m ∧ m < 1073741824 ∧ g < 2 ^ 60 ∧ ∀ n H', 0 ≤ n → n < m → Grow C F H F H' (g + 1) → Q (.int n) H'
/-- what an own exception's __init__ promises -/
def spI (D : Addr) (f : Str) : Sp := fun vs H Q _ => ∃ a y, vs = [.ref a, y] ∧ H a = some (exo a D none) ∧ ∀ dx, H dx = none → dx ≠ a → Q .non (upd (upd H dx (exd dx [(f, y)])) a (exo a D (some dx)))
def bltNames : List Str := ["len", "repr", "list", "tuple", "min", "isinstance", "range", "enumerate", "str", "int", "bool", "dict"]
structure GOk (Γ : Gam) (C : Ctx) (Φ : Calls) (sub : Nat → Nat → Bool) (k : Nat) (P : Program) (w : World) (mg : Str → Option Value) (base : Heap) : Prop where
  fn : ∀ f x, Γ.fnm[f]? = some x → ∃ a fd ps, mg x = some (.ref a) ∧ PySem.W.keepIn C.K (.ref a) = true ∧ Binds C.K fd ps [] ∧ FnG P w C.K mg base k a fd ps (spF C Φ f)
  con : ∀ x d, (x, d) ∈ Γ.con → ∃ u v, mg x = some u ∧ RelV v u ∧ ∀ F H, RP C.K F H v d
  blt : ∀ x ∈ bltNames, mg x = none
  drw : ∃ a fd, mg "_law_draw" = some (.ref a) ∧ PySem.W.keepIn C.K (.ref a) = true ∧ Binds C.K fd ["_law_state", "_law_many"] [] ∧ FnG P w C.K mg base k a fd ["_law_state", "_law_many"] (spD C)
  cls : ∀ c y, Γ.cnm[c]? = some y → mg y = some (.ref (C.cls c)) ∧ ∀ c', PySem.W.kitOne C.K (.ref (C.cls c')) (.ref (C.cls c)) = some (sub c' c)
  exm : ∀ c y, Γ.cnm[c]? = some y → ∀ c', PySem.W.exmOne C.K (.ref (C.cls c')) (.ref (C.cls c)) = some (sub c' c)
  ecl : ∀ c, ExcC C.K (C.cls c)
  rse : ∀ c f, (c, f) ∈ Γ.rsl → ∃ fI fd ps, OexC C.K (C.cls c) ∧ PySem.W.findIn C.K (.ref (C.cls c)) "__init__" = some (some (.ref fI)) ∧ PySem.W.typeIn C.K (.ref fI) = some (.type "function") ∧
    FnOk P w C.K mg base (L2.CX P w) 1 fI fd ps (spI (C.cls c) f) ∧ Binds C.K fd ps []
  fno : ∀ c f, f ∈ Γ.fld → PySem.W.findIn C.K (.ref (C.cls c)) f = some none
structure XOk (Γ : Gam) (Φ : Calls) (sub : Nat → Nat → Bool) (k : Nat) (N : List Str) (P : Pl) (X : Cx) : Prop where
  eK : X.K = P.C.K
  eN : X.N = N
  nd : N.Nodup
  calm : X.calm = true
  tk : Takes X P.W
  quiet : X.A.guards = some []
  room : Room k X.A
  sys : KSys X.base
  glob : GOk Γ P.C Φ sub k X.prog X.w X.mg X.base
theorem XOk.units {Γ : Gam} {Φ : Calls} {sub : Nat → Nat → Bool} {k : Nat} {N : List Str} {P : Pl} {X : Cx} (x : XOk Γ Φ sub k N P X) : X.A.units + 70 < cLine := by have := x.room.un; omega
/-- one expression, then what follows -/
theorem thenE {P : Pl} {Φ : Calls} {sub : Nat → Nat → Bool} (hΦ : CMono Φ) {pl : Bool} {a : E} {δ : Env} {σ : L2.St} {F : Fz} {H : Hp} {g : Nat} {A : VD → Nat → Prop} {R : XPost} {Q : VK} (B : BI P.C P.H0 P.F0 δ σ H F g) (w : wE Φ sub a δ g A R)
    (hA : ∀ x g1 v H1 F1, A x g1 → Grow P.C F H F1 H1 g1 → BI P.C P.H0 P.F0 δ σ H1 F1 g1 → RX pl P.C F1 H1 v x → Q v H1) (hR : ∀ c fs δ' g', R c fs δ' g' → EX P σ F H c fs δ' g') : tE P pl (wE Φ sub a) σ H Q :=
  ⟨δ, F, g, B, wE_mono hΦ a δ g _ _ _ _ (fun x g1 h v H1 F1 G r => hA x g1 v H1 F1 h G (B.grow G) r) hR w⟩
theorem thenEs {P : Pl} {Φ : Calls} {sub : Nat → Nat → Bool} (hΦ : CMono Φ) {pl : Bool} {a : Es} {δ : Env} {σ : L2.St} {F : Fz} {H : Hp} {g : Nat} {A : List VD → Nat → Prop} {R : XPost} {Q : List V → Hp → Prop} (B : BI P.C P.H0 P.F0 δ σ H F g) (w : wEs Φ sub a δ g A R)
    (hA : ∀ x g1 v H1 F1, A x g1 → Grow P.C F H F1 H1 g1 → BI P.C P.H0 P.F0 δ σ H1 F1 g1 → Paired (RX pl P.C F1 H1) v x → Q v H1) (hR : ∀ c fs δ' g', R c fs δ' g' → EX P σ F H c fs δ' g') : tEs P pl (wEs Φ sub a) σ H Q :=
  ⟨δ, F, g, B, wEs_mono hΦ a δ g _ _ _ _ (fun x g1 h v H1 F1 G r => hA x g1 v H1 F1 h G (B.grow G) r) hR w⟩
theorem thenT {P : Pl} {Φ : Calls} {sub : Nat → Nat → Bool} (hΦ : CMono Φ) {a : T} {δ : Env} {σ : L2.St} {F : Fz} {H : Hp} {g : Nat} {A : Bool → Nat → Prop} {R : XPost} {Q : Bool → Hp → Prop} (B : BI P.C P.H0 P.F0 δ σ H F g) (w : wT Φ sub a δ g A R)
    (hA : ∀ x g1 H1 F1, A x g1 → Grow P.C F H F1 H1 g1 → BI P.C P.H0 P.F0 δ σ H1 F1 g1 → Q x H1) (hR : ∀ c fs δ' g', R c fs δ' g' → EX P σ F H c fs δ' g') : tT P (wT Φ sub a) σ H Q :=
  ⟨δ, F, g, B, wT_mono hΦ a δ g _ _ _ _ (fun x g1 h H1 F1 G => hA x g1 H1 F1 h G (B.grow G)) hR w⟩
theorem thenO {P : Pl} {Φ : Calls} {sub : Nat → Nat → Bool} (hΦ : CMono Φ) {a : O} {δ : Env} {σ : L2.St} {F : Fz} {H : Hp} {g : Nat} {A : Option Int → Nat → Prop} {R : XPost} {Q : Option Int → Hp → Prop} (B : BI P.C P.H0 P.F0 δ σ H F g) (w : wO Φ sub a δ g A R)
    (hA : ∀ x g1 H1 F1, A x g1 → Grow P.C F H F1 H1 g1 → BI P.C P.H0 P.F0 δ σ H1 F1 g1 → Q x H1) (hR : ∀ c fs δ' g', R c fs δ' g' → EX P σ F H c fs δ' g') : tO P (wO Φ sub a) σ H Q :=
  ⟨δ, F, g, B, wO_mono hΦ a δ g _ _ _ _ (fun x g1 h H1 F1 G => hA x g1 H1 F1 h G (B.grow G)) hR w⟩

theorem tyNames_in {t : String} (h : t ∈ tyNames) : Str.ofString t ∈ bltNames := by
  simp only [tyNames, List.mem_cons, List.not_mem_nil, or_false] at h
  rcases h with rfl | rfl | rfl | rfl | rfl | rfl <;> simp [bltNames]
theorem tyNames_boot {t : String} (h : t ∈ tyNames) : bootBuiltins (Str.ofString t) = some (.type t) := by
  simp only [tyNames, List.mem_cons, List.not_mem_nil, or_false] at h
  rcases h with rfl | rfl | rfl | rfl | rfl | rfl <;> decide +kernel
theorem tyNames_name {t : String} (h : t ∈ tyNames) : Str.ofString t ≠ "__name__" ∧ (Str.ofString t == ("__debug__" : Str)) = false := by
  simp only [tyNames, List.mem_cons, List.not_mem_nil, or_false] at h
  rcases h with rfl | rfl | rfl | rfl | rfl | rfl <;> decide +kernel
def tyN : PyData → String
  | .none => "NoneType"
  | .bool _ => "bool"
  | .int _ => "int"
  | .str _ => "str"
  | .list _ => "list"
  | .tuple _ => "tuple"
  | .dict _ => "dict"
theorem isi_kit {d : PyData} {t : String} {b : Bool} (h : isiS d t = some b) : kitB (tyN d) t = some b := by
  unfold isiS at h
  split at h <;> (repeat' split at h) <;> first | (cases h; done) | skip
  all_goals
    rename_i hc
    cases h
    try simp only [Bool.or_eq_true, decide_eq_true_eq] at hc
    first
      | (rcases hc with ((((rfl | rfl) | rfl) | rfl) | rfl) | rfl <;> (simp only [tyN]; decide +kernel))
      | (rcases hc with (((rfl | rfl) | rfl) | rfl) | rfl <;> (simp only [tyN]; decide +kernel))
      | (rcases hc with ((rfl | rfl) | rfl) | rfl <;> (simp only [tyN]; decide +kernel))
      | (rcases hc with rfl | rfl <;> (simp only [tyN]; decide +kernel))
      | (subst hc; simp only [tyN]; decide +kernel)
theorem TV.ty {K : PySem.W.Frag} {C : Ctx} {F : Fz} {H : Hp} {v : V} {d : PyData} (h : TV C F H v (.d d)) (hK : K = C.K) : TyX K H v (.type (tyN d)) := by
  subst hK
  have dt : ∀ (hx : ∀ ds, d ≠ .list ds), TyX C.K H v (.type (tyN d)) := fun hx => by
    cases h.data hx with
    | non => exact .base .non
    | bl b => exact .base (.bl b)
    | int i => exact .base (.int i)
    | str x => exact .base (.str x)
    | lst h1 h2 h3 => exact .base (.lst h2)
    | tup h2 h3 =>
      rcases h2 with (h2 | ⟨o, h2⟩) | ⟨o, its, n, hk, hc, _⟩
      · exact .base (.tup h2)
      · exact .fTuple h2
      · exact .kTuple hk hc
    | dic h1 h2 => exact .base (.dK h2)
  cases d with
  | list ds =>
    obtain ⟨a, xs, rfl, h1, _⟩ := h.list
    exact .base (.lst h1)
  | none => exact dt (fun _ => nofun)
  | bool b => exact dt (fun _ => nofun)
  | int b => exact dt (fun _ => nofun)
  | str b => exact dt (fun _ => nofun)
  | tuple b => exact dt (fun _ => nofun)
  | dict b => exact dt (fun _ => nofun)
theorem plain_true {x : Expr} (h : plainB x = true) (env : PySem.Env) : ∀ whole, PySem.isTrue x env whole = (do let v ← whole; standAt x.pos; holding [v] (truthy v)) := by
  intro whole
  cases x <;> first | rfl | cases h
theorem cE_star {Γ : Gam} {N : List Str} {pl : Bool} {sc : Scope} {e : E} {x : Expr} (h : cE Γ N pl sc e x = true) : starB x = false := by
  cases x <;> first | rfl | skip
  cases e <;> (simp only [cE] at h; cases h)
theorem plain_ix {y : Expr} (h : sliceB y = false) : PlainIx y := by
  intro o i
  cases y <;> first | rfl | cases h
theorem cEs_all {Γ : Gam} {N : List Str} {pl : Bool} {sc : Scope} : ∀ {es : Es} {as : List Expr}, cEs Γ N pl sc es as = true → as.any starB = false
  | .nil, [], _ => rfl
  | .nil, _ :: _, h => by simp only [cEs] at h; cases h
  | .cons e r, [], h => by simp only [cEs] at h; cases h
  | .cons e r, x :: xs, h => by
    simp only [cEs, Bool.and_eq_true, Bool.not_eq_true'] at h
    rw [List.any_cons, h.1.1, Bool.false_or]
    exact cEs_all h.2
theorem cEs_star {Γ : Gam} {N : List Str} {pl : Bool} {sc : Scope} {es : Es} {a : Expr} {as : List Expr} (h : cEs Γ N pl sc es (a :: as) = true) : starB a = false ∧ as.any starB = false := by
  have := cEs_all h
  rwa [List.any_cons, Bool.or_eq_false_iff] at this
end NC

set_option Elab.async false
set_option linter.all false
set_option maxRecDepth 100000
set_option maxHeartbeats 4000000
/-! enumerate over a tuple -/
namespace PySem
open AutoSeq1 (wpAny_loadPart')
theorem nc_enum_newT (l : Addr) (items : Array Value) (n : Nat) (dct : Option Addr) (sl : Array (Option Value)) :
    Meets (Builtin.«enumerate.__new__» ⟨[.type "enumerate", .ref l], []⟩) (fun _ R s => s.heap.get? l = some { cls := .type "tuple", dict := dct, data := .seq items n, slots := sl } ∧
      R (.ok (.ret (.ref (s.heap.push { cls := .type "tuple_iterator", data := .fields #[.ref l, .int 0 0] }).objs.size)))
        { s with heap := (s.heap.push { cls := .type "tuple_iterator", data := .fields #[.ref l, .int 0 0] }).push { cls := .type "enumerate", data := .fields #[.none, .bool false, .ref s.heap.objs.size, rawInt 0, .none, .none] } }) :=
  .of_wp fun prog w A R s h => by
    obtain ⟨hp, g, d, tk, os⟩ := s
    obtain ⟨hl, h⟩ := h
    have subE := sub_enumerate
    have hT : Heap.IsTuple (Shared.heap ⟨hp, g, d, tk, os⟩) l items := ⟨_, hl, rfl, n, rfl⟩
    wp_walk using wpAny_loadPart' hl
    refine wpAny_stack_any fun st => wpAny_pure ?_
    split
    · rename_i c _ _ _ _ _
      cases (c == Value.type "enumerate") <;>
        (wp_walk using wpAny_loadPart' hl, wpAny_pyIter_tuple hT
         exact ⟨_, rfl, h⟩)
    · wp_walk using wpAny_loadPart' hl, wpAny_pyIter_tuple hT
      exact ⟨_, rfl, h⟩
theorem nc_call_enumT {prog : Program} {w : World} {A : Around} {E : Value → Shared → Prop} {s : Shared} {l : Addr} {items : Array Value} {Q : Value → Shared → Prop} (hT : s.heap.IsTuple l items)
    (h : ∀ h', IsEnum h' (s.heap.objs.size + 1) s.heap.objs.size 0 .none → h'.IsTupleIter s.heap.objs.size l 0 → (∀ b o, s.heap.get? b = some o → h'.get? b = some o) → Q (.ref (s.heap.objs.size + 1)) { s with heap := h' }) :
    wpAny (model prog w) A (call (.type "enumerate") [.ref l]) Q E s := by
  obtain ⟨⟨c, dct, dt, sl⟩, hl, hc, n, hd⟩ := hT
  obtain rfl : c = .type "tuple" := hc
  obtain rfl : dt = .seq items n := hd
  refine callType_new F.called_enumerate (by decide) (F.typeCall_enumerate_1 _) (F.newCall_enumerate_1 _) (fun obj => F.args_object_init_2 obj _) F.entry_enumerate_new (nc_enum_newT l items n dct sl) ⟨hl, ?_⟩
  have hz : (s.heap.push { cls := .type "tuple_iterator", data := .fields #[.ref l, .int 0 0] }).objs.size = s.heap.objs.size + 1 := Heap.size_push ..
  show _ ∧ _
  rw [hz]
  have he := Heap.get?_push_size (s.heap.push { cls := .type "tuple_iterator", data := .fields #[.ref l, .int 0 0] }) (o := { cls := .type "enumerate", data := .fields #[.none, .bool false, .ref s.heap.objs.size, rawInt 0, .none, .none] }) rfl
  rw [hz] at he
  exact ⟨⟨_, he, rfl⟩, h _ he ⟨_, Heap.get?_push_of_some _ (Heap.get?_push_size _ rfl), rfl, rfl⟩ fun b o x => Heap.get?_push_of_some _ (Heap.get?_push_of_some _ x)⟩
end PySem
namespace NC
open PySem PySem.Spec PyProof.Rows L2
/-- a tuple's items in new pairs with their numbers -/
def IteT (K : PySem.W.Frag) (a : Addr) : L2.It :=
  ⟨fun i H => ∃ (xs : List V) (x : V), SqT K H a xs ∧ xs[i]? = some x, fun i H v H' => ∃ T x, v = .ref T ∧ H T = none ∧ H' = upd H T (.tup [.int (i : Nat), x]) ∧ ∀ xs, SqT K H a xs → xs[i]? = some x, fun i H => ∃ xs : List V, SqT K H a xs ∧ xs.length = i⟩
theorem turn_enumT {P : Program} {w : World} {K : PySem.W.Frag} {elts : List Expr} {kk : Nat} {tpos : Pos} (a e it : Addr) :
    Turn P w K (.Tuple elts kk tpos) (IteT K a) [e, it] e (fun i h => (∃ old, IsEnum h e it ((i : Nat) : Int) old) ∧ h.IsTupleIter it a i ∧ e ≠ it ∧ a ≠ it ∧ a ≠ e) where
  mem := by simp
  obj := fun i h st b hb => by
    obtain ⟨⟨old, he⟩, ⟨o, ho, hc, hd⟩, _⟩ := st
    rcases (show b = e ∨ b = it by simpa using hb) with z | z
    · rw [z]; exact ⟨_, he, fun v q => nomatch q⟩
    · rw [z]; exact ⟨o, ho, fun v q => by rw [hd] at q; cases q⟩
  keep := fun i h h' ⟨⟨old, he⟩, hi, hne⟩ k => ⟨⟨old, k e (by simp) _ he⟩, hi.at fun o q => k it (by simp) o q, hne⟩
  item := by
    intro X hP hw hK hc i pins s σ H E I hf st hg
    subst hP hw hK
    obtain ⟨⟨old, he⟩, hit, hne, ha1, ha2⟩ := st
    obtain ⟨xs, x, hq, hx⟩ := hg
    obtain ⟨its, rv, p, hz⟩ := I.tuple hq
    obtain ⟨u, hu, ru⟩ := rv.get hx
    have hel : e < s.heap.objs.size := Heap.lt_size he
    have hil : it < s.heap.objs.size := by obtain ⟨_, q, _⟩ := hit; exact Heap.lt_size q
    have hlt : i < its.toArray.size := by simpa using (List.getElem?_eq_some_iff.mp hu).1
    have D := Draws.tuple (prog := X.prog) (w := X.w) (A := X.A.in1) (I.ok.hd hc) it a ha1 its.toArray
    refine wpAny_pyNext_enum_itemD D he ⟨hit, p⟩ hlt hne (by simp; exact ⟨hne, Ne.symm ha2⟩) fun y h' tk hy ho hst hT hsz hk => ?_
    have ey : y = u := by
      have e2 : its.toArray[i]? = some u := by simpa using hu
      rw [e2] at hy; exact (Option.some.inj hy).symm
    subst ey
    refine ⟨_, rfl, wpAny_letOwnedTupleGo_enum (s := { s with heap := h', toks := tk + 1 }) ho fun h'' he' sb => ?_⟩
    have hT2 := (sb.2 _ (Nat.ne_of_gt hel)).trans hT
    have new : ObjOk X.prog X.w (upd H s.heap.objs.size (.tup [.int (i : Nat), x])) h'' s.heap.objs.size (.tup [.int (i : Nat), x]) :=
      ⟨by show 2 ≤ sizeLine; decide, [.int i tk, y], .cons ⟨_, rfl⟩ (.cons ru .nil), ⟨_, hT2, rfl, _, rfl⟩⟩
    have I1 : Inv X pins σ (upd H s.heap.objs.size (.tup [.int (i : Nat), x])) { s with heap := h'', toks := tk + 1 } :=
      I.turnedNew (ch := [e, it]) (fun b ob hb q => (sb.2 b (fun z => hb (by simp [z]))).trans (hk b ob (fun z => hb (by simp [z])) (fun z => hb (by simp [z])) q)) hf (Nat.le_refl _) new
    refine ⟨.ref s.heap.objs.size, _, I1, rfl, ⟨_, x, rfl, I.hok.fresh (Nat.le_refl _), rfl, fun ys hy => by rw [I.tuple_inj hy hq]; exact hx⟩, ⟨⟨y, ?_⟩, hst.1.at fun o q => (sb.2 it (Ne.symm hne)).trans q, hne, ha1, ha2⟩, fun b hb => ?_⟩
    · rw [show ((i + 1 : Nat) : Int) = (i : Int) + 1 by omega]; exact he'
    · have hb' : b < s.heap.objs.size := by
        rcases (show b = e ∨ b = it by simpa using hb) with z | z
        · rw [z]; exact hel
        · rw [z]; exact hil
      rw [upd_ne (Nat.ne_of_lt hb')]
      exact (hf b hb).1
  done := by
    intro X hP hw hK hc i pins s σ H E I hf st hg
    subst hP hw hK
    obtain ⟨⟨old, he⟩, hit, hne, ha1, ha2⟩ := st
    obtain ⟨xs, hq, hx⟩ := hg
    obtain ⟨its, rv, p, hz⟩ := I.tuple hq
    obtain ⟨f0, f1, f2, f3, f4, f5⟩ := hf it (by simp)
    have hl := rv.length
    have D := Draws.tuple (prog := X.prog) (w := X.w) (A := X.A.in1) (I.ok.hd hc) it a ha1 its.toArray
    have en : its.toArray.size = i := by rw [List.size_toArray, ← hl]; exact hx
    refine wpAny_pyNext_enum_endD D he ⟨by rw [en]; exact hit, p⟩ fun h' eb => ⟨rfl, I.turned (t' := s.toks) (fun b o hb q => eb b o hb q) f0 f1 f3 f4 f5⟩
  self := fun A i s Q E st h => let ⟨⟨_, he⟩, _⟩ := st; wpAny_pyIter_enum he h
def iEnumT (K : PySem.W.Frag) (ta : TA) : TI := fun σ H R => ta σ H fun vs H1 => ∃ a xs, vs = [.ref a] ∧ ((SqL K H1 a xs ∧ R (Ite K a) H1) ∨ (SqT K H1 a xs ∧ R (IteT K a) H1))
theorem pi_enumT {X : Cx} {e : Expr} {ta : TA} {p pos tpos : Pos} {elts : List Expr} {kk : Nat} (hg : Gl X "enumerate") (hm : X.mg "enumerate" = none) (ha : PA X [e] ta) (hs : starEach [e] X.env = [(false, eval e X.env)]) :
    PI X (.Tuple elts kk tpos) (.Call (.Name "enumerate" p) [e] [] pos) (iEnumT X.K ta) := by
  refine ⟨fun pins s σ H R I h => ?_⟩
  refine Call_ (ld_blt I hg hm boot_enumerate (PyProof.Rows.callWith_type1 (thn (ha.run pos pins s σ H _ I h) fun us s1 ⟨vs, H1, I1, r1, a, xs, ex, q⟩ => ?_) hs rfl))
  subst ex
  obtain ⟨u, rfl, ru⟩ := Vals.one r1
  obtain rfl : u = Value.ref a := ru
  have pl : ∀ b, b = s1.heap.objs.size + 1 ∨ b = s1.heap.objs.size → FpOk X pins H1 b := fun b hb => by
    have hle : s1.heap.objs.size ≤ b := by
      rcases hb with z | z
      · rw [z]; exact Nat.le_add_right _ _
      · rw [z]; exact Nat.le_refl _
    exact I1.fpOk hle (I1.hok.fresh hle)
  rcases q with ⟨hq, q⟩ | ⟨hq, q⟩
  · obtain ⟨its, rv, p', hz⟩ := I1.list hq
    refine call_enumerate_list p'.isList fun h' he hit hsz hk => wpAny_pyIter_enum he ?_
    exact ⟨s1.heap.objs.size + 1, [s1.heap.objs.size + 1, s1.heap.objs.size], _, _, H1, rfl, I1.kept (t' := s1.toks) hk, turn_enum a (s1.heap.objs.size + 1) s1.heap.objs.size, ⟨⟨.none, he⟩, hit, Nat.succ_ne_self _⟩, fun b hb => pl b (by simpa using hb), q⟩
  · obtain ⟨its, rv, p', hz⟩ := I1.tuple hq
    have la : a < s1.heap.objs.size := by obtain ⟨o, ho, _⟩ := p'; exact Heap.lt_size ho
    refine nc_call_enumT (show s1.heap.IsTuple a its.toArray from p') fun h' he hit hk => wpAny_pyIter_enum he ?_
    exact ⟨s1.heap.objs.size + 1, [s1.heap.objs.size + 1, s1.heap.objs.size], _, _, H1, rfl, I1.kept (t' := s1.toks) hk, turn_enumT a (s1.heap.objs.size + 1) s1.heap.objs.size, ⟨⟨.none, he⟩, hit, Nat.succ_ne_self _, Nat.ne_of_lt la, Nat.ne_of_lt (Nat.lt_succ_of_lt la)⟩, fun b hb => pl b (by simpa using hb), q⟩
/-- a list or a tuple -/
def iSeq (K : PySem.W.Frag) (tl : TE) : TI := fun σ H R => tl σ H fun x H1 => ∃ a xs, x = .ref a ∧ ((SqL K H1 a xs ∧ R (Itl K a) H1) ∨ (SqT K H1 a xs ∧ R (Itt K a) H1))
theorem pi_seq {X : Cx} {tg l : Expr} {tl : TE} (hl : PE X l tl) : PI X tg l (iSeq X.K tl) := by
  refine ⟨fun pins s σ H R I h => ?_⟩
  refine thn (hl.run pins s σ H _ I h) fun v s1 ⟨x, H1, I1, r1, a, xs, ex, q⟩ => ?_
  subst ex
  obtain rfl : v = Value.ref a := r1
  have J : Inv X pins σ H1 { s1 with heap := s1.heap } := I1
  have fp : ∀ b ∈ [s1.heap.objs.size], FpOk X pins H1 b := fun b hb => by
    obtain rfl : b = s1.heap.objs.size := by simpa using hb
    exact I1.fpOk (Nat.le_refl _) (I1.hok.fresh (Nat.le_refl _))
  rcases q with ⟨hq, q⟩ | ⟨hq, q⟩
  · obtain ⟨its, rv, p, hz⟩ := I1.list hq
    exact wpAny_pyIter_list p.isList ⟨s1.heap.objs.size, [s1.heap.objs.size], _, _, H1, rfl, I1.kept (t' := s1.toks) fun b o e => Heap.get?_push_of_some _ e, turn_list a _, ⟨_, Heap.get?_push_size _ rfl, rfl, rfl⟩, fp, q⟩
  · obtain ⟨its, rv, p, hz⟩ := I1.tuple hq
    exact wpAny_pyIter_tuple (show s1.heap.IsTuple a its.toArray from p) ⟨s1.heap.objs.size, [s1.heap.objs.size], _, _, H1, rfl, I1.kept (t' := s1.toks) fun b o e => Heap.get?_push_of_some _ e, turn_tuple a _, ⟨_, Heap.get?_push_size _ rfl, rfl, rfl⟩, fp, q⟩
end NC

set_option Elab.async false
set_option linter.all false
set_option maxRecDepth 100000
set_option maxHeartbeats 4000000
namespace NC
open PySem PySem.Spec PyProof.Rows L2
/-! ### what is gone through -/
def LS (pl : Bool) (C : Ctx) (Z : Fz) (F : Fz) (H : Hp) (a : Addr) (xs : List V) : Prop := H a = some (.lst xs) ∧ ¬ C.S a ∧ (pl = false → F a) ∧ ¬ Z a
inductive Src (pl : Bool) (C : Ctx) (Z : Fz) (F : Fz) (H : Hp) : L2.It → List PyData → Prop
  | lst {a : Addr} {xs : List V} {ds : List PyData} : LS pl C Z F H a xs → RPs C.K F H xs ds → Src pl C Z F H (Itl C.K a) ds
  | tup {a : Addr} {xs : List V} {ds : List PyData} : SqT C.K H a xs → RPs C.K F H xs ds → Src pl C Z F H (Itt C.K a) ds
  | rng (n : Nat) : Src pl C Z F H (Itr 0 n) ((List.range n).map fun k => .int (k : Nat))
  | enl {a : Addr} {xs : List V} {ds : List PyData} : LS pl C Z F H a xs → RPs C.K F H xs ds → Src pl C Z F H (Ite C.K a) (enumD 0 ds)
  | ent {a : Addr} {xs : List V} {ds : List PyData} : SqT C.K H a xs → RPs C.K F H xs ds → Src pl C Z F H (IteT C.K a) (enumD 0 ds)
theorem enumD_length : ∀ (n : Nat) (ds : List PyData), (enumD n ds).length = ds.length
  | _, [] => rfl
  | n, d :: ds => by rw [enumD, List.length_cons, List.length_cons, enumD_length]
theorem enumD_get : ∀ (n : Nat) (ds : List PyData) (i : Nat) (d : PyData), ds[i]? = some d → (enumD n ds)[i]? = some (.tuple [.int ((n + i : Nat) : Int), d])
  | _, [], _, _, h => by simp at h
  | n, x :: ds, 0, d, h => by simp at h; subst h; rfl
  | n, x :: ds, i + 1, d, h => by
    have := enumD_get (n + 1) ds i d (by simpa using h)
    rw [enumD, List.getElem?_cons_succ, this]
    simp only [Option.some.injEq, PyData.tuple.injEq, List.cons.injEq, PyData.int.injEq, and_true]
    omega
section
variable {pl : Bool} {C : Ctx} {Z F F' : Fz} {H H' : Hp} {g g' : Nat} {J : L2.It} {ds : List PyData}
theorem LS.grow {a : Addr} {xs : List V} (G : Grow C F H F' H' g') (h : LS pl C Z F H a xs) : LS pl C Z F' H' a xs := ⟨G.keep a _ h.1 h.2.1, h.2.1, fun e => G.sub a (h.2.2.1 e), h.2.2.2⟩
theorem Src.grow (ok : FOk C F H g) (G : Grow C F H F' H' g') (h : Src pl C Z F H J ds) : Src pl C Z F' H' J ds := by
  have e := G.ext ok
  cases h with
  | lst h1 h2 => exact .lst (h1.grow G) (h2.mono e)
  | tup h1 h2 => exact .tup (e.sqT h1) (h2.mono e)
  | rng n => exact .rng n
  | enl h1 h2 => exact .enl (h1.grow G) (h2.mono e)
  | ent h1 h2 => exact .ent (e.sqT h1) (h2.mono e)
theorem LS.ext {a : Addr} {xs : List V} (e : Ext F H F' H') (h : LS false C Z F H a xs) : LS false C Z F' H' a xs := ⟨(e.eq a (h.2.2.1 rfl)).trans h.1, h.2.1, fun _ => e.sub a (h.2.2.1 rfl), h.2.2.2⟩
theorem Src.ext (e : Ext F H F' H') (h : Src false C Z F H J ds) : Src false C Z F' H' J ds := by
  cases h with
  | lst h1 h2 => exact .lst (h1.ext e) (h2.mono e)
  | tup h1 h2 => exact .tup (e.sqT h1) (h2.mono e)
  | rng n => exact .rng n
  | enl h1 h2 => exact .enl (h1.ext e) (h2.mono e)
  | ent h1 h2 => exact .ent (e.sqT h1) (h2.mono e)
theorem Src.avoid (h : Src pl C (fun _ => False) F H J ds) {D : Addr} (hD : H D = none) : Src pl C (· = D) F H J ds := by
  have ne : ∀ {a xs}, LS pl C (fun _ => False) F H a xs → LS pl C (· = D) F H a xs := fun {a xs} h => ⟨h.1, h.2.1, h.2.2.1, fun e => by have z := h.1; rw [e, hD] at z; cases z⟩
  cases h with
  | lst h1 h2 => exact .lst (ne h1) h2
  | tup h1 h2 => exact .tup h1 h2
  | rng n => exact .rng n
  | enl h1 h2 => exact .enl (ne h1) h2
  | ent h1 h2 => exact .ent h1 h2
/-- the new list D changes -/
theorem ext_upd {D : Addr} {acc acc' : List V} (hF : ¬ F D) (hD : H D = some (.lst acc)) : Ext F H F (upd H D (.lst acc')) :=
  ⟨fun _ h => h, fun b hb => upd_ne fun e => hF (e ▸ hb), fun b zs e => by rw [upd_ne (fun q => by rw [q, hD] at e; cases e)]; exact e, fun b o u e => by rw [upd_ne (fun q => by rw [q, hD] at e; cases e)]; exact e⟩
theorem Src.upd {D : Addr} {acc acc' : List V} (hF : ¬ F D) (hD : H D = some (.lst acc)) (h : Src pl C (· = D) F H J ds) : Src pl C (· = D) F (L2.upd H D (.lst acc')) J ds := by
  have e := ext_upd (acc' := acc') hF hD
  have ls : ∀ {a xs}, LS pl C (· = D) F H a xs → LS pl C (· = D) F (L2.upd H D (.lst acc')) a xs := fun {a xs} h => ⟨by rw [upd_ne h.2.2.2]; exact h.1, h.2.1, h.2.2.1, h.2.2.2⟩
  cases h with
  | lst h1 h2 => exact .lst (ls h1) (h2.mono e)
  | tup h1 h2 => exact .tup (e.sqT h1) (h2.mono e)
  | rng n => exact .rng n
  | enl h1 h2 => exact .enl (ls h1) (h2.mono e)
  | ent h1 h2 => exact .ent (e.sqT h1) (h2.mono e)
theorem Src.go (ok : FOk C F H g) (h : Src pl C Z F H J ds) {i : Nat} (hi : i < ds.length) : J.go i H ∧ ∀ x H', J.yld i H x H' → ∃ d, ds[i]? = some d ∧ Grow C F H F H' g ∧ RP C.K F H' x d := by
  cases h with
  | @lst a xs _ h1 h2 =>
    obtain ⟨v, e1, e2⟩ := h2.get (List.getElem?_eq_getElem hi)
    refine ⟨⟨xs, v, SqL.of h1.1, e1⟩, fun x H' ⟨e3, e4⟩ => ⟨_, List.getElem?_eq_getElem hi, ?_⟩⟩
    subst e3
    have := e4 xs (SqL.of h1.1)
    rw [e1] at this; cases this
    exact ⟨ok.refl, e2⟩
  | @tup a xs _ h1 h2 =>
    obtain ⟨v, e1, e2⟩ := h2.get (List.getElem?_eq_getElem hi)
    refine ⟨⟨xs, v, h1, e1⟩, fun x H' ⟨e3, e4⟩ => ⟨_, List.getElem?_eq_getElem hi, ?_⟩⟩
    subst e3
    have := e4 xs h1
    rw [e1] at this; cases this
    exact ⟨ok.refl, e2⟩
  | rng n =>
    have hi' : i < n := by simpa using hi
    refine ⟨hi', fun x H' ⟨e3, e4⟩ => ⟨.int (i : Nat), by simp [hi'], ?_⟩⟩
    subst e3 e4
    exact ⟨ok.refl, by rw [Int.zero_add]; exact .int _⟩
  | @enl a xs es h1 h2 =>
    rw [enumD_length] at hi
    obtain ⟨v, e1, e2⟩ := h2.get (List.getElem?_eq_getElem hi)
    refine ⟨⟨xs, v, SqL.of h1.1, e1⟩, fun x H' ⟨T, y, e3, e4, e5, e6⟩ => ⟨_, enumD_get 0 es i _ (List.getElem?_eq_getElem hi), ?_⟩⟩
    have := e6 xs (SqL.of h1.1)
    rw [e1] at this; cases this
    subst e3 e5
    have G := ok.alloc (.tup [.int (i : Nat), v]) e4
    refine ⟨G, .tup (SqT.of upd_same) (.cons ?_ (.cons (e2.mono (G.ext ok)) .nil))⟩
    rw [Nat.zero_add]; exact .int _
  | @ent a xs es h1 h2 =>
    rw [enumD_length] at hi
    obtain ⟨v, e1, e2⟩ := h2.get (List.getElem?_eq_getElem hi)
    refine ⟨⟨xs, v, h1, e1⟩, fun x H' ⟨T, y, e3, e4, e5, e6⟩ => ⟨_, enumD_get 0 es i _ (List.getElem?_eq_getElem hi), ?_⟩⟩
    have := e6 xs h1
    rw [e1] at this; cases this
    subst e3 e5
    have G := ok.alloc (.tup [.int (i : Nat), v]) e4
    refine ⟨G, .tup (SqT.of upd_same) (.cons ?_ (.cons (e2.mono (G.ext ok)) .nil))⟩
    rw [Nat.zero_add]; exact .int _
theorem Src.stop (h : Src pl C Z F H J ds) : J.stop ds.length H := by
  cases h with
  | lst h1 h2 => exact ⟨_, SqL.of h1.1, by rw [h2.length]; exact Nat.le_refl _⟩
  | tup h1 h2 => exact ⟨_, h1, by rw [h2.length]; exact Nat.le_refl _⟩
  | rng n => show n ≤ _; simp
  | enl h1 h2 => exact ⟨_, SqL.of h1.1, by rw [enumD_length, h2.length]; exact Nat.le_refl _⟩
  | ent h1 h2 => exact ⟨_, h1, by rw [enumD_length, h2.length]⟩
end
/-- the reading of what is gone through -/
def tI (P : Pl) (pl : Bool) (m : Mng (List PyData)) : TI := fun σ H R => ∃ δ F g, BI P.C P.H0 P.F0 δ σ H F g ∧ m δ g (fun ds g' => ∀ J H' F', Grow P.C F H F' H' g' → Src pl P.C (fun _ => False) F' H' J ds → R J H') (EX P σ F H)
theorem PI.weak {X : Cx} {tg e : Expr} {t t' : TI} (h : PI X tg e t) (k : ∀ σ H Q, t' σ H Q → t σ H Q) : PI X tg e t' := ⟨fun pins s σ H Q I w => h.run pins s σ H Q I (k σ H Q w)⟩
theorem RX.ls {pl : Bool} {C : Ctx} {F : Fz} {H : Hp} {g : Nat} {v : V} {ds : List PyData} (ok : FOk C F H g) (h : RX pl C F H v (.d (.list ds))) : ∃ a xs, v = .ref a ∧ LS pl C (fun _ => False) F H a xs ∧ RPs C.K F H xs ds := by
  cases pl
  · cases (show RP C.K F H v (.list ds) from h) with
    | lst h1 h2 h3 => exact ⟨_, _, rfl, ⟨h2, ok.nst _ h1, fun _ => h1, id⟩, h3⟩
  · rcases (show TV C F H v (.d (.list ds)) from h) with h | ⟨a, xs, es, e1, e2, e3, e4, e5⟩
    · cases (show RP C.K F H v (.list ds) from h) with
      | lst h1 h2 h3 => exact ⟨_, _, rfl, ⟨h2, ok.nst _ h1, fun _ => h1, id⟩, h3⟩
    · cases e2
      exact ⟨a, xs, e1, ⟨e3, e4, (fun z => by cases z), id⟩, e5⟩
end NC

set_option Elab.async false
set_option linter.all false
set_option maxRecDepth 100000
set_option maxHeartbeats 4000000
namespace NC
open PySem PySem.Spec PyProof.Rows L2
/-! ### targets -/
theorem wipe_set {σ : L2.St} {i : Nat} {o : Option V} : ∀ {vs : List Nat}, i ∈ vs → L2.wipe (σ.set i o) vs = L2.wipe σ vs := by
  have key : ∀ (vs : List Nat), (L2.wipe (σ.set i o) vs).set i none = (L2.wipe σ vs).set i none := by
    intro vs
    induction vs with
    | nil => show (σ.set i o).set i none = σ.set i none; rw [List.set_set]
    | cons v vs ih =>
      show ((L2.wipe (σ.set i o) vs).set v none).set i none = ((L2.wipe σ vs).set v none).set i none
      by_cases e : v = i
      · subst e; rw [ih]
      · rw [List.set_comm _ _ e, ih, List.set_comm _ _ e]
  intro vs h
  induction vs with
  | nil => cases h
  | cons v vs ih =>
    show (L2.wipe (σ.set i o) vs).set v none = (L2.wipe σ vs).set v none
    by_cases e : v = i
    · subst e; exact key vs
    · rw [ih (by simpa [Ne.symm e] using h)]
theorem wipe_wipe {σ : L2.St} (vs : List Nat) : ∀ us : List Nat, (∀ i ∈ us, i ∈ vs) → L2.wipe (L2.wipe σ us) vs = L2.wipe σ vs
  | [], _ => rfl
  | u :: us, h => by
    show L2.wipe ((L2.wipe σ us).set u none) vs = _
    rw [wipe_set (h u List.mem_cons_self)]
    exact wipe_wipe vs us fun i hi => h i (List.mem_cons_of_mem _ hi)
theorem BI.store' {C : Ctx} {H0 : Hp} {F0 : Fz} {δ : Env} {σ : L2.St} {H : Hp} {F : Fz} {g : Nat} (B : BI C H0 F0 δ σ H F g) {i : Nat} {x : V} {v : VD} (r : RV C F H x v) : BI C H0 F0 (δ.set i (.sh v)) (σ.set i (some x)) H F g := by
  by_cases hi : i < σ.length
  · exact B.store hi r
  · rw [List.set_eq_of_length_le (by rw [B.len]; omega), List.set_eq_of_length_le (by omega)]; exact B
def tG (P : Pl) (tg : Tg) : TG := fun v σ H Q => ∃ δ F g x δ', BI P.C P.H0 P.F0 δ σ H F g ∧ RV P.C F H v x ∧ asgT tg x δ = some δ' ∧ ∀ σ', BI P.C P.H0 P.F0 δ' σ' H F g → (∀ vs : List Nat, (∀ i ∈ tg.slots, i ∈ vs) → L2.wipe σ' vs = L2.wipe σ vs) → Q σ' H
theorem PG.weak {X : Cx} {e : Expr} {t t' : TG} (h : PG X e t) (k : ∀ v σ H Q, t' v σ H Q → t v σ H Q) : PG X e t' := ⟨fun pins s σ H v u Q I r w => h.run pins s σ H v u Q I r (k v σ H Q w)⟩
theorem sTg {N : List Str} {P : Pl} {X : Cx} {okx : Str → Bool} (hK : X.K = P.C.K) (hN : X.N = N) (nd : N.Nodup) (calm : X.calm = true) (hx : ∀ x, okx x = true → Loc X.env.scope x ∧ (X.fn x = true ∨ X.env.scope.names.lookup x = some .local)) :
    ∀ (tg : Tg) (ast : Expr), tgB N okx tg ast = true → PG X ast (tG P tg)
  | .name i, ast, h => by
    cases ast <;> try (simp only [tgB] at h; cases h; done)
    rename_i x pos
    simp only [tgB, Bool.and_eq_true, decide_eq_true_eq] at h
    obtain ⟨h1, h2⟩ := hx x h.1
    refine PG.weak (pg_name (by rw [hN]; exact nd) (by rw [hN]; exact h.2) h1 h2) fun v σ H Q ⟨δ, F, g, y, δ', B, r, e, q⟩ => ?_
    simp only [asgT, Option.some.injEq] at e
    subst e
    exact q _ (B.store' r) fun vs hv => wipe_set (hv i (by simp [Tg.slots]))
  | .pair i j, ast, h => by
    cases ast <;> try (simp only [tgB] at h; cases h; done)
    rename_i es k pos
    match es, h with
    | [.Name x px, .Name y py], h =>
      simp only [tgB, Bool.and_eq_true, decide_eq_true_eq] at h
      obtain ⟨⟨a1, a2⟩, b1, b2⟩ := h
      obtain ⟨h1, h2⟩ := hx x a1
      obtain ⟨h3, h4⟩ := hx y b1
      refine PG.weak (pg_tup (n := 2) calm (pgs_cons (pg_name (by rw [hN]; exact nd) (by rw [hN]; exact a2) h1 h2) (pgs_cons (pg_name (by rw [hN]; exact nd) (by rw [hN]; exact b2) h3 h4) pgs_nil))) fun v σ H Q ⟨δ, F, g, y, δ', B, r, e, q⟩ => ?_
      unfold asgT at e
      split at e <;> try (cases e; done)
      · rename_i he; cases he
      · rename_i x1 y1 he
        cases he
        cases e
        cases (show RP P.C.K F H v (.tuple [x1, y1]) from r) with
        | tup h2 h3 =>
          cases h3 with
          | cons r1 h3 =>
            cases h3 with
            | cons r2 h3 =>
              cases h3
              refine ⟨_, _, rfl, by rw [hK]; exact h2, rfl, _, _, rfl, _, _, rfl, rfl, ?_⟩
              refine q _ ((B.store' (v := .d x1) r1).store' (v := .d y1) r2) fun vs hv => ?_
              rw [wipe_set (hv j (by simp [Tg.slots])), wipe_set (hv i (by simp [Tg.slots]))]
      · rename_i he; cases he
  | .trip i j l, ast, h => by
    cases ast <;> try (simp only [tgB] at h; cases h; done)
    rename_i es k pos
    match es, h with
    | [.Name x px, .Name y py, .Name z pz], h =>
      simp only [tgB, Bool.and_eq_true, decide_eq_true_eq] at h
      obtain ⟨⟨⟨a1, a2⟩, b1, b2⟩, c1, c2⟩ := h
      obtain ⟨h1, h2⟩ := hx x a1
      obtain ⟨h3, h4⟩ := hx y b1
      obtain ⟨h5, h6⟩ := hx z c1
      refine PG.weak (pg_tup (n := 3) calm (pgs_cons (pg_name (by rw [hN]; exact nd) (by rw [hN]; exact a2) h1 h2) (pgs_cons (pg_name (by rw [hN]; exact nd) (by rw [hN]; exact b2) h3 h4) (pgs_cons (pg_name (by rw [hN]; exact nd) (by rw [hN]; exact c2) h5 h6) pgs_nil)))) fun v σ H Q ⟨δ, F, g, y, δ', B, r, e, q⟩ => ?_
      unfold asgT at e
      split at e <;> try (cases e; done)
      · rename_i he; cases he
      · rename_i he; cases he
      · rename_i x1 y1 z1 he
        cases he
        cases e
        cases (show RP P.C.K F H v (.tuple [x1, y1, z1]) from r) with
        | tup h2 h3 =>
          cases h3 with
          | cons r1 h3 =>
            cases h3 with
            | cons r2 h3 =>
              cases h3 with
              | cons r3 h3 =>
                cases h3
                refine ⟨_, _, rfl, by rw [hK]; exact h2, rfl, _, _, rfl, _, _, rfl, _, _, rfl, rfl, ?_⟩
                refine q _ (((B.store' (v := .d x1) r1).store' (v := .d y1) r2).store' (v := .d z1) r3) fun vs hv => ?_
                rw [wipe_set (hv l (by simp [Tg.slots])), wipe_set (hv j (by simp [Tg.slots])), wipe_set (hv i (by simp [Tg.slots]))]
/-! ### a new list -/
/-- the reading of a place that makes a list which nobody else has -/
def tF (P : Pl) (m : Mng (List PyData)) : TE := fun σ H Q => ∃ δ F g, BI P.C P.H0 P.F0 δ σ H F g ∧ m δ g (fun ds g' => ∀ D xs H' F', Grow P.C F H F' H' g' → H D = none → H' D = some (.lst xs) → ¬ F' D → RPs P.C.K F' H' xs ds → Q (.ref D) H') (EX P σ F H)
theorem BI.updD {C : Ctx} {H0 : Hp} {F0 : Fz} {δ : Env} {σ : L2.St} {H : Hp} {F : Fz} {g : Nat} (B : BI C H0 F0 δ σ H F g) {D : Addr} {acc acc' : List V} (hD : H D = some (.lst acc)) (hF : ¬ F D) (hS : ¬ C.S D) (h0 : H0 D = none)
    (hn : ∀ (j : Nat) (es : List PyData), δ[j]? = some (.ow es) → σ[j]? ≠ some (some (.ref D))) : BI C H0 F0 δ σ (upd H D (.lst acc')) F g := by
  have ex := ext_upd (acc' := acc') hF hD
  have gr : Grow C F0 H0 F (upd H D (.lst acc')) g := ⟨fun b o e n => by rw [upd_ne (ne_of_none e h0)]; exact B.gr.keep b o e n, B.gr.sub, B.gr.new, fun b hb => by
      have q : b ≠ D := fun e => hF (e ▸ hb)
      rw [upd_ne q]; exact B.gr.trk b hb, B.gr.nst, B.gr.sta.at fun b hb => upd_ne fun e => hS (e ▸ hb)⟩
  refine ⟨B.len, fun i v h => ?_, fun i ds h => ?_, B.ne, gr⟩
  · obtain ⟨x, e1, e2⟩ := B.sh i v h
    exact ⟨x, e1, e2.mono ex⟩
  · obtain ⟨b, zs, e1, e2, e3, e4, e5, e6⟩ := B.ow i ds h
    have nb : b ≠ D := fun q => hn i ds h (by rw [e1, q])
    exact ⟨b, zs, e1, by rw [upd_ne nb]; exact e2, e3.mono ex, e4, e5, e6⟩
def tTO (P : Pl) (m : Mng Bool) : TT := tT P m
/-- what a comprehension does with one item -/
abbrev Stp := PyData → Nat → (Option PyData → Nat → Prop) → Prop
theorem lc_read {P : Pl} {pl : Bool} {tg : Tg} {tt : TT} {te : TE} {mi : Mng (List PyData)} {f : Env → Stp} {σ : L2.St} {H : Hp} {Q : VK} {vs : List Nat} (hv : vs = tg.slots)
    (mono : ∀ δ g A A' R, (∀ x g1, A x g1 → A' x g1) → mi δ g A R → mi δ g A' R)
    (step : ∀ (δ : Env) (σ1 : L2.St) (H1 : Hp) (F1 : Fz) (g1 : Nat) (x : V) (d : PyData) (A : Option PyData → Nat → Prop) (QQ : L2.St → Hp → Prop), BI P.C P.H0 P.F0 (wipeD δ tg.slots) σ1 H1 F1 g1 → RP P.C.K F1 H1 x d → f δ d g1 A →
      (∀ σ2, (∀ vs : List Nat, (∀ i ∈ tg.slots, i ∈ vs) → L2.wipe σ2 vs = L2.wipe σ1 vs) → (∀ (Nx : Hp → Prop) (D : Addr) , (∀ g3 H3 F3, Grow P.C F1 H1 F3 H3 g3 → A none g3 → Nx H3) → (∀ y z g3 H3 F3, Grow P.C F1 H1 F3 H3 g3 → RP P.C.K F3 H3 y z → A (some z) g3 → ∃ acc, H3 D = some (.lst acc) ∧ acc.length < sizeLine ∧ Nx (upd H3 D (.lst (acc ++ [y])))) →
        tt σ2 H1 fun b H3 => if b = true then te σ2 H3 fun y H4 => ∃ acc, H4 D = some (.lst acc) ∧ acc.length < sizeLine ∧ Nx (upd H4 D (.lst (acc ++ [y]))) else Nx H3) → QQ σ2 H1) → tG P tg x σ1 H1 QQ) :
    tF P (fun δ g A R => mi δ g (fun xs g' => compW (f δ) xs [] g' A) R) σ H Q → tLc (tI P pl mi) (tG P tg) tt te vs σ H Q := by
  subst hv
  rintro ⟨δ, F, g, B, w⟩
  refine ⟨δ, F, g, B, mono _ _ _ _ _ (fun ds g1 w1 J H1 F1 G1 src D hD => ?_) w⟩
  have B1 := B.grow G1
  have hS : ¬ P.C.S D := B1.ok.sta.off hD
  have h0 : P.H0 D = none := by
    cases e : P.H0 D with
    | none => rfl
    | some o => rw [B1.gr.keep D o e hS] at hD; cases hD
  have hH : H D = none := by
    cases e : H D with
    | none => rfl
    | some o => rw [G1.keep D o e hS] at hD; cases hD
  have hF1 : ¬ F1 D := fun z => B1.ok.trk D z hD
  have hn : ∀ (j : Nat) (es : List PyData), (wipeD δ tg.slots)[j]? = some (.ow es) → (L2.wipe σ tg.slots)[j]? ≠ some (some (.ref D)) := fun j es h e => by
    obtain ⟨a, xs, e1, e2, _⟩ := (B1.wipe tg.slots).ow j es h
    rw [e1] at e; cases e
    rw [e2] at hD; cases hD
  have al := B1.ok.alloc (.lst []) hD
  have Ba := (B1.grow al)
  refine ⟨fun i m H2 => m = ds.length - i ∧ i ≤ ds.length ∧ ∃ F2 g2 acc ys, BI P.C P.H0 P.F0 (wipeD δ tg.slots) (L2.wipe σ tg.slots) H2 F2 g2 ∧ H2 D = some (.lst acc) ∧ ¬ F2 D ∧ RPs P.C.K F2 H2 acc ys ∧ Src pl P.C (· = D) F2 H2 J ds ∧ Grow P.C F1 H1 F2 H2 g2 ∧
    compW (f δ) (ds.drop i) ys g2 (fun ds g' => ∀ D xs H' F', Grow P.C F H F' H' g' → H D = none → H' D = some (.lst xs) → ¬ F' D → RPs P.C.K F' H' xs ds → Q (.ref D) H'),
    ⟨ds.length, by simp, Nat.zero_le _, F1, g1, [], [], Ba.wipe _, upd_same, hF1, .nil, (src.avoid hD).grow B1.ok al, al, by simpa using w1⟩, ?_⟩
  rintro i m H2 ⟨rfl, hi, F2, g2, acc, ys, B2, hD2, hF2, ra, src2, G2, w2⟩
  by_cases hlt : i < ds.length
  · refine .inr ?_
    obtain ⟨go, yld⟩ := src2.go B2.ok hlt
    refine ⟨go, fun H' => (fun i m H2 => m = ds.length - i ∧ i ≤ ds.length ∧ ∃ F2 g2 acc ys, BI P.C P.H0 P.F0 (wipeD δ tg.slots) (L2.wipe σ tg.slots) H2 F2 g2 ∧ H2 D = some (.lst acc) ∧ ¬ F2 D ∧ RPs P.C.K F2 H2 acc ys ∧ Src pl P.C (· = D) F2 H2 J ds ∧ Grow P.C F1 H1 F2 H2 g2 ∧
      compW (f δ) (ds.drop i) ys g2 (fun ds g' => ∀ D xs H' F', Grow P.C F H F' H' g' → H D = none → H' D = some (.lst xs) → ¬ F' D → RPs P.C.K F' H' xs ds → Q (.ref D) H')) (i + 1) (ds.length - (i + 1)) H', fun H' z => ⟨_, by omega, z⟩, fun x H' y => ?_⟩
    obtain ⟨d, ed, Gy, rx⟩ := yld x H' y
    have By := B2.grow Gy
    have ed' : ds.drop i = d :: ds.drop (i + 1) := by
      rw [List.drop_eq_getElem_cons hlt]
      rw [List.getElem?_eq_getElem hlt] at ed
      rw [Option.some.inj ed]
    rw [ed'] at w2
    unfold compW at w2
    have nF : ∀ {F3 H3 g3}, Grow P.C F2 H' F3 H3 g3 → ¬ F3 D ∧ H3 D = some (.lst acc) := fun {F3 H3 g3} G3 => by
      have k1 := Gy.keep D _ hD2 hS
      refine ⟨fun z => ?_, G3.keep D _ k1 hS⟩
      rcases G3.new D z with z | z
      · exact hF2 z
      · rw [k1] at z; cases z
    refine step δ _ H' F2 g2 x d _ _ By rx w2 fun σ2 hw tst => ⟨(hw _ fun _ h => h).trans (wipe_wipe _ _ fun _ h => h), tst _ D (fun g3 H3 F3 G3 w3 => ?_) fun y z g3 H3 F3 G3 ry w3 => ?_⟩
    · obtain ⟨nf, hd3⟩ := nF G3
      exact ⟨rfl, hlt, F3, g3, acc, ys, By.grow G3, hd3, nf, (ra.mono (Gy.ext B2.ok)).mono (G3.ext By.ok), (src2.grow B2.ok Gy).grow By.ok G3, (G2.trans Gy).trans G3, w3⟩
    · obtain ⟨nf, hd3⟩ := nF G3
      have B3 := By.grow G3
      have ex := ext_upd (acc' := acc ++ [y]) nf hd3
      have G3' : Grow P.C F1 H1 F3 (upd H3 D (.lst (acc ++ [y]))) g3 := by
        have G := (G2.trans Gy).trans G3
        exact ⟨fun b o e n => by rw [upd_ne (ne_of_none e hD)]; exact G.keep b o e n, G.sub, G.new, fun b hb => by
          have q : b ≠ D := fun e => nf (e ▸ hb)
          rw [upd_ne q]; exact G.trk b hb, G.nst, G.sta.at fun b hb => upd_ne fun e => hS (e ▸ hb)⟩
      have rs : RPs P.C.K F3 H3 acc ys := (ra.mono (Gy.ext B2.ok)).mono (G3.ext By.ok)
      refine ⟨acc, hd3, by rw [rs.length]; exact w3.1, rfl, hlt, F3, g3, acc ++ [y], ys ++ [z], B3.updD hd3 nf hS h0 hn, upd_same, nf, RPs.append (rs.mono ex) (.cons (ry.mono ex) .nil), ((src2.grow B2.ok Gy).grow By.ok G3).upd nf hd3, G3', w3.2⟩
  · have e : i = ds.length := by omega
    subst e
    refine .inl ⟨src2.stop, ?_⟩
    rw [List.drop_length] at w2
    unfold compW at w2
    exact w2 D acc H2 F2 (G1.trans G2) hH hD2 hF2 ra
end NC

set_option Elab.async false
set_option linter.all false
set_option maxRecDepth 100000
set_option maxHeartbeats 4000000
namespace NC
open PySem PySem.Spec PySem.Calls PyProof.Rows L2
/-! ### isinstance of a caught exception, its fields -/
section
variable {prog : Program} {w : World} {K : PySem.W.Frag} {x D : Addr}
open PySem.W in
theorem nc_class_of {A : Around} {E : Value → Shared → Prop} {s : Shared} {ox : Obj} {od : Option Obj} {Q : Option Value → Shared → Prop} (T : ExcC K D) (kin : K.In s.heap) (I : InstAt s.heap x ox D od) (h : Q (some (.ref D)) { s with toks := s.toks + 1 }) :
    wpAny (model prog w) A (getAttr? (.ref x) "__class__") Q E s := by
  have hf : findObj K D od "__class__" = some (.bind (.builtin "getset_descriptor.__get__") (.builtin "object.__class__")) := by
    obtain ⟨cd, hc, _⟩ := any_some T.hd
    unfold findObj
    rw [hc, Option.bind_some, T.ha, Option.bind_some]
    simp [T.hn, T.ht]
  obtain ⟨hp, g, d, t, os⟩ := s
  have lookTy := I.type (M := model prog w)
  have lookGa := looks_findIn (M := model prog w) kin T.hg
  have lookGt := looks_findIn (M := model prog w) kin T.hk
  have lookCl := looks_find (M := model prog w) kin I hf
  have isB : Looks (model prog w) hp (isInstance (.ref x) (.type "BaseException")) true := lookTy.andThen (looks_subIn kin T.hs)
  have notObj : (Value.builtin "BaseException.__getattribute__" == Value.builtin "object.__getattribute__") = false := by decide +kernel
  have notBoth : (onTheHeap (Value.ref D) && Value.builtin "BaseException.__getattribute__" == Value.builtin "object.__getattribute__") = false := by rw [notObj]; rfl
  unfold getAttr? getAttrBy? getAttrBy
  refine wpAny_bind (wpAny_mkText (wpAny_bind (wpAny_attempt (wpAny_holding (wpAny_bind (lookTy.at (wpAny_bind (lookGa.at ?_))))))))
  show wpAny _ _ (if (onTheHeap (Value.ref D) && Value.builtin "BaseException.__getattribute__" == Value.builtin "object.__getattribute__") = true then _ else _) _ _ _
  rw [notBoth, if_neg Bool.false_ne_true]
  unfold getAttrByItsOwn hookBefore
  refine wpAny_bind ?_
  rw [if_pos (show onTheHeap (Value.ref D) = true from rfl)]
  refine lookGt.at (wpAny_bind (wpAny_attempt (wpAny_holding ?_)))
  unfold callGetattribute
  rw [(show (false && onTheHeap (Value.builtin "BaseException.__getattribute__")) = false from rfl), if_neg Bool.false_ne_true]
  unfold boundAndCalled
  rw [PySem.F.excAttr_ValueError.ga.bind (.ref x)]
  refine wpAny_bind (wpAny_pure ?_)
  show wpAny _ _ (call (.builtin "BaseException.__getattribute__") [.ref x, .str "__class__" t]) _ _ _
  refine wpAny_call (codeAny_call_builtin PySem.F.excAttr_ValueError.ga.plain PySem.F.entry_bexc_ga ?_)
  refine @check_slot (model prog w) _ _ ⟨hp, g, d, t + 1, os⟩ "BaseException.__getattribute__" "BaseException" "__getattribute__" (.ref x) [.str "__class__" t] [] _ (by decide +kernel) (by decide +kernel) isB (PySem.F.args_bexc_ga (.ref x) (.str "__class__" t)) ?_
  unfold Builtin.«object.__getattribute__»
  refine wpAny_bind (wpAny_of_eq (a := ((Value.ref x : Value), [Value.str "__class__" t])) (by first | rfl | (simp only [slotArgs]; rfl)) ?_)
  refine wpAny_bind (wpAny_pure (wpAny_bind (lookTy.at (wpAny_bind (lookCl.at ?_)))))
  show wpAny _ _ (holding [Value.builtin "object.__class__"] (call (.builtin "getset_descriptor.__get__") [.builtin "object.__class__", .ref x, .ref D]) >>= ret) _ _ _
  refine wpAny_bind (wpAny_holding (wpAny_call (class_get (s := ⟨hp, g, d, t + 1, os⟩) (ox := ox) (od := od) kin I T.hm ?_)))
  refine wpAny_pure ?_
  show wpAny _ _ (handedOut (.ref D)) _ _ _
  rw [handedOut_of (v := .ref D) rfl]
  first
    | exact wpAny_pure (wpAny_pure h)
    | exact wpAny_pure h
    | exact wpAny_pure (wpAny_bind (wpAny_pure (wpAny_pure h)))
open PySem.W in
theorem nc_kitx (T : ExcC K D) : KitX K (.ref x) (.ref D) (fun h => ∃ ox od, InstAt h x ox D od) where
  ty := fun _ _ _ ⟨_, _, I⟩ => I.type
  it := fun M h kin ⟨ox, od, I⟩ => by
    obtain ⟨cd, hc, _⟩ := any_some T.hd
    unfold clsIn at hc
    split at hc
    · rename_i ho
      intro A' Q' E' s' k q
      unfold isType loadHead
      exact wpAny_bind (wpAny_loadPart (k _ _ (kin _ _ ho)) (wpAny_pure q))
    · cases hc
  ne := fun h tp dd its n sl kin htp => by
    obtain ⟨cd, hc, _⟩ := any_some T.hd
    refine Bool.eq_false_iff.mpr fun q => ?_
    obtain rfl : D = tp := Value.ref.inj (beq_iff_eq.mp q)
    unfold clsIn at hc
    split at hc
    · rename_i ho
      cases (kin _ _ ho).symm.trans htp
    · cases hc
  ca := fun kin ⟨_, _, I⟩ k => nc_class_of T kin I k
end
section
variable {X : Cx} {C : Ctx}
theorem cxo_inst {pins : List (Addr × Obj)} {σ : L2.St} {H : Hp} {s : Shared} (I : Inv X pins σ H s) {a D dx : Addr} {fs : List (Str × V)} (h1 : H a = some (cxo a D dx)) (h2 : H dx = some (.xd fs)) : ∃ ox od mA, PySem.W.InstAt s.heap a ox D (some od) ∧ s.heap.Ns1 dx mA ∧ (∀ f, RelO (fs.lookup f) (mA f)) ∧ s.heap.get? dx = some od := by
  obtain ⟨o, vs, e1, e2, e3, e4⟩ := cxo_at I.hok h1
  have hx : ObjOk X.prog X.w H s.heap dx (.xd fs) := I.hok dx _ h2
  obtain ⟨mA, hns, hr⟩ := hx
  obtain ⟨od, ho, hl⟩ := lookIn_ns hns
  exact ⟨o, od, mA, ⟨e1, e2, by unfold PySem.W.notCls; rw [e4] <;> rfl, by rw [e3]; exact ho⟩, hns, hr, ho⟩
/-- isinstance(e, c) -/
def rIsx (C : Ctx) (sub : Nat → Nat → Bool) (c : Nat) : List V → Hp → VK → Prop := fun xs H Q => ∃ F g c' fs v, xs = [v, .ref (C.cls c)] ∧ FOk C F H g ∧ RV C F H v (.exc c' fs) ∧ Q (.bl (sub c' c)) H
theorem call_isx (hK : X.K = C.K) {sub : Nat → Nat → Bool} {c : Nat} (T : ∀ c, ExcC C.K (C.cls c)) (oc : ∀ c', PySem.W.kitOne C.K (.ref (C.cls c')) (.ref (C.cls c)) = some (sub c' c)) : CallR X (.builtin "isinstance") (rIsx C sub c) := by
  intro pins s σ H xs us Q I r ⟨F, g, c', fs, v, e1, ok, rv, q⟩
  subst e1
  obtain ⟨a, dx, vs, rfl, h2, h3, h4, h5, h6⟩ := rv
  obtain ⟨ox, od, mA, J, _⟩ := cxo_inst I h4 h5
  cases r with
  | cons rx rr =>
    cases rr with
    | cons rt rr =>
      cases rr
      cases rx
      cases rt
      exact PySem.W.kia_one (nc_kitx (T c')) (by rw [← hK]; exact I.kIn) ⟨ox, _, J⟩ (oc c') (fun z => nomatch z) fun tk => ⟨.bl (sub c' c), H, I.kept (t' := tk) fun _ _ z => z, rfl, q⟩
theorem lookup_pair {R : V → PyData → Prop} {n : Str} {x : PyData} : ∀ {vs : List (Str × V)} {fs : List (Str × PyData)}, Paired (fun (p : Str × V) (q : Str × PyData) => p.1 = q.1 ∧ R p.2 q.2) vs fs → fs.lookup n = some x → ∃ v, vs.lookup n = some v ∧ R v x
  | _, _, .nil, h => by cases h
  | (a, v) :: vs, (b, y) :: fs, .cons r t, h => by
    obtain ⟨r1, r2⟩ := r
    simp only at r1 r2
    subst r1
    rw [List.lookup_cons] at h ⊢
    cases e : n == a with
    | true => rw [e] at h; cases h; exact ⟨v, rfl, r2⟩
    | false => rw [e] at h; exact lookup_pair t h
def tXfl (C : Ctx) (n : Str) (te : TE) : TE := fun σ H Q => te σ H fun v H1 => ∃ F g c' fs x, FOk C F H1 g ∧ RV C F H1 v (.exc c' fs) ∧ fs.lookup n = some x ∧ ∀ u, RP C.K F H1 u x → Q u H1
theorem pe_xfld {e : Expr} {te : TE} {pos : Pos} {n : Str} (hK : X.K = C.K) (T : ∀ c, ExcC C.K (C.cls c)) (hno : ∀ c, PySem.W.findIn C.K (.ref (C.cls c)) n = some none) (he : PE X e te) (hb : attributeBase e n X.env (eval e X.env) = eval e X.env := by rfl) :
    PE X (.Attribute e n pos) (tXfl C n te) := by
  refine ⟨fun pins s σ H Q I h => ?_⟩
  refine attr_of hb (thn (he.run pins s σ H _ I h) fun u s1 ⟨v, H1, I1, rx, F, g, c', fs, x, ok, rv, el, q⟩ => ?_)
  obtain ⟨a, dx, vs, rfl, h2, h3, h4, h5, h6⟩ := rv
  obtain rfl : u = Value.ref a := rx
  obtain ⟨y, ey, ry⟩ := lookup_pair h6 el
  obtain ⟨ox, od, mA, J, hns, hr, hdx⟩ := cxo_inst I1 h4 h5
  obtain ⟨od', ho, hl⟩ := lookIn_ns hns
  rw [hdx] at ho; cases ho
  obtain ⟨u, hu, ru⟩ := RelO.some_of (v := y) (o := mA n) (by rw [← ey]; exact hr n)
  have kin : C.K.In s1.heap := by rw [← hK]; exact I1.kIn
  exact HandSPX.exc_get kin J (T c').hg (T c').hk (T c').hs (PySem.W.findObj_own (T c').hd (hno c') rfl (by rw [hl, hu])) (handed_of ru) ⟨y, H1, I1.tok _, ru, q y ry⟩
end
end NC

set_option Elab.async false
set_option linter.all false
set_option maxRecDepth 100000
set_option maxHeartbeats 4000000
namespace NC
open PySem PySem.Spec PyProof.Rows L2
/-! ### t[:h].count(x) -/
section
variable {X : Cx} {C : Ctx}
/-- t[:h], h below the length: a new tuple, known to the object -/
def rSlF (K : PySem.W.Frag) : V → Option Int → Option Int → Hp → VK → Prop := fun x lo hi H Q => ∃ (a : Addr) (xs : List V) (h : Int), x = .ref a ∧ lo = none ∧ hi = some h ∧ 0 ≤ h ∧ h < xs.length ∧ SqT K H a xs ∧
  ∀ p o, H p = none → o.dict = none → o.cls = .type "tuple" → Q (.ref p) (upd H p (.frz o (.tup (xs.take h.toNat))))
theorem cutV_take {xs : List V} {h : Int} (h0 : 0 ≤ h) (h1 : h < xs.length) : cutV xs none (some h) = xs.take h.toNat := by
  have e : HT.sIx xs.length xs.length (some h) = h.toNat := by
    show (if h < 0 then (h + (xs.length : Int)).toNat else min h.toNat xs.length) = h.toNat
    rw [if_neg (by omega)]; omega
  show (xs.drop (HT.sIx xs.length 0 none)).take (HT.sIx xs.length xs.length (some h) - HT.sIx xs.length 0 none) = _
  rw [e, HT.sIx_none]
  simp
theorem sl_tupF : SlR X (rSlF X.K) := by
  intro pins s σ H x v vl vu lo hi sl Q I rx hs pl pu h
  obtain ⟨a, xs, h, rfl, rfl, rfl, h0, h1, hx, q⟩ := h
  cases rx
  obtain ⟨its, r, ht, hz⟩ := I.tuple hx
  have hlen : its.toArray.size = xs.length := by rw [List.size_toArray]; exact r.length.symm
  have e : HT.sIx xs.length xs.length (some h) = h.toNat := by
    show (if h < 0 then (h + (xs.length : Int)).toNat else min h.toNat xs.length) = h.toNat
    rw [if_neg (by omega)]; omega
  refine ⟨"tuple", _, PyProof.Rows.slot_tuple_getitem.lookup, ht.typeIs, ?_⟩
  refine HT.getItem_tuple_cut ht hs pl pu (by rw [hlen, e]; omega) ?_ (by rw [hlen]; exact hz)
  rw [hlen]
  have hn := I.hok.fresh (Nat.le_refl s.heap.objs.size)
  refine ⟨.ref s.heap.objs.size, _, I.laid (t' := s.toks) (o := .frz _ (.tup (cutV xs none (some h)))) (fun b ob q => Heap.get?_push_of_some _ q) (Nat.le_refl _) ⟨Heap.get?_push_size _ rfl, ?_⟩, rfl, ?_⟩
  · exact ⟨Nat.le_trans (cutV_length xs none (some h)) hz, _, (r.drop (HT.sIx xs.length 0 none)).take (HT.sIx xs.length xs.length (some h) - HT.sIx xs.length 0 none), IsTup.new _ _⟩
  · rw [cutV_take h0 h1]
    exact q _ _ hn rfl rfl
def tyF (x : V) (H : Hp) : Prop := ∃ a o xs, x = .ref a ∧ H a = some (.frz o (.tup xs)) ∧ o.dict = none ∧ o.cls = .type "tuple"
theorem tyF_ok : TyOk X "tuple" tyF := by
  intro pins σ H s x v I r ty
  obtain ⟨a, o, xs, rfl, h1, h2, h3⟩ := ty
  cases r
  obtain ⟨e, _⟩ := (show ObjOk X.prog X.w H s.heap a (.frz o (.tup xs)) from I.hok a _ h1)
  refine ⟨⟨o, e, h3⟩, fun b eb => ?_⟩
  cases eb
  exact ⟨o, e, h2⟩
def rCnt (C : Ctx) : V → List V → Hp → VK → Prop := fun x vs H Q => ∃ (F : Fz) (g : Nat) (a : Addr) (xs : List V) (ds : List PyData) (y : V) (d : PyData), FOk C F H g ∧ x = .ref a ∧ vs = [y] ∧ SqT C.K H a xs ∧ RPs C.K F H xs ds ∧ TV C F H y (.d d) ∧
  PyData.plainAll ds = true ∧ d.plain = true ∧ d.depth ≤ 60 ∧ Q (.int ((ds.countP fun z => PyData.eqv z d : Nat) : Int)) H
theorem mt_cnt (hK : X.K = C.K) (ks : KSys X.base) (hu : X.A.units + 70 < cLine) : MtR X "tuple.count" (rCnt C) := by
  intro pins s σ H x xs v us Q I rx rv ⟨F, g, a, zs, ds, y, d, ok, e1, e2, h1, r1, ty, p1, p2, p3, q⟩
  subst e1 e2
  cases rx
  obtain ⟨u, rfl, ru⟩ := Vals.one rv
  obtain ⟨its, rvs, p, hz⟩ := I.tuple (X := X) (xs := zs) (by rw [hK]; exact h1)
  obtain ⟨as, ra, _⟩ := RPs.reads (F := F) I ks (by rw [hK]; exact r1) rvs
  obtain ⟨bs, rb, _⟩ := ty.reads hK I ks ru
  exact PySem.SeqAt.count_tuple_data (show s.heap.IsTuple a its.toArray from p) (by simpa using ra) rb p1 p2 (by have := Nat.min_le_right (PyData.depthAll ds) d.depth; omega) ⟨.int _, H, I.tok _, ⟨_, rfl⟩, q⟩
end
end NC

set_option Elab.async false
set_option linter.all false
set_option maxRecDepth 100000
set_option maxHeartbeats 4000000
namespace NC
open PySem PySem.Spec PyProof.Rows L2
theorem few1 {u : Expr} (h : starB u = false) {env : PySem.Env} {cpos : Pos} : ((backTo cpos (starEach [u] env)).all (fun x => !x.1) && (backToKw cpos (keywordEach [] env)).all (fun x => x.1.isSome)
      && decide ([u].length + ([] : List Keyword).length + (if ([] : List Keyword).isEmpty then 0 else 1) < 30)) = true := by
  rw [star_cons h]; rfl
/-! ### comprehensions -/
/-- the new list is frozen -/
theorem Grow.frzD {C : Ctx} {F F' : Fz} {H H' : Hp} {g g' : Nat} {D : Addr} {xs : List V} (G : Grow C F H F' H' g') (ok : FOk C F H g) (hn : H D = none) (hD : H' D = some (.lst xs)) : Grow C F H (fz F' D) H' g' ∧ Ext F' H' (fz F' D) H' := by
  refine ⟨⟨G.keep, fun a z => .inl (G.sub a z), fun a z => ?_, fun a z => ?_, fun a z => ?_, G.sta⟩, ⟨fun _ h => .inl h, fun _ _ => rfl, fun _ _ h => h, fun _ _ _ h => h⟩⟩
  · rcases z with z | z
    · exact G.new a z
    · rw [z]; exact .inr hn
  · rcases z with z | z
    · exact G.trk a z
    · rw [z, hD]; exact nofun
  · rcases z with z | z
    · exact G.nst a z
    · rw [z]; exact ok.sta.off hn
theorem itS_seq {e : E} {x : VD} {xs : List PyData} (h : itS (.seq e) x = some xs) : x = .d (.tuple xs) ∨ x = .d (.list xs) := by
  cases x with
  | d y => cases y <;> simp [itS] at h <;> simp [h]
  | sta => simp [itS] at h
  | scr n => simp [itS] at h
  | exc c fs => simp [itS] at h
theorem itS_enum {e : E} {x : VD} {xs : List PyData} (h : itS (.enum e) x = some xs) : ∃ ys, (x = .d (.tuple ys) ∨ x = .d (.list ys)) ∧ xs = enumD 0 ys := by
  cases x with
  | d y => cases y <;> simp [itS] at h <;> simp [h]
  | sta => simp [itS] at h
  | scr n => simp [itS] at h
  | exc c fs => simp [itS] at h
theorem itS_rng {e : E} {x : VD} {xs : List PyData} (h : itS (.rng e) x = some xs) : ∃ n : Int, x = .d (.int n) ∧ -(2 ^ 62) ≤ n ∧ n < 2 ^ 62 ∧ xs = (List.range n.toNat).map fun k => .int (k : Nat) := by
  cases x with
  | d y =>
    cases y with
    | int n =>
      simp only [itS] at h
      split at h
      · rename_i hc
        simp only [Bool.and_eq_true, decide_eq_true_eq] at hc
        cases h
        exact ⟨n, rfl, hc.1, hc.2, rfl⟩
      · cases h
    | _ => simp [itS] at h
  | sta => simp [itS] at h
  | scr n => simp [itS] at h
  | exc c fs => simp [itS] at h
def cStp (Φ : Calls) (sub : Nat → Nat → Bool) (elt : E) (tg : Tg) (t : TO) (δ : Env) : Stp := fun x g1 P => ∃ δ1, asgT tg (.d x) (wipeD δ tg.slots) = some δ1 ∧ wTO Φ sub t δ1 g1 (fun c g2 => if c = true then wE Φ sub elt δ1 g2 (fun y g3 => ∃ z, y = .d z ∧ P (some z) g3) (fun _ _ _ _ => False) else P none g2) (fun _ _ _ _ => False)
def wC (Φ : Calls) (sub : Nat → Nat → Bool) (elt : E) (tg : Tg) (it : It) (t : TO) : Mng (List PyData) := fun δ g A R => wIt Φ sub it δ g (fun xs g' => compW (cStp Φ sub elt tg t δ) xs [] g' A) R
theorem wE_comp {Φ : Calls} {sub : Nat → Nat → Bool} {elt : E} {tg : Tg} {it : It} {t : TO} {δ : Env} {g : Nat} {Q : Post} {R : XPost} : wE Φ sub (.comp elt tg it t) δ g Q R ↔ wC Φ sub elt tg it t δ g (fun ys g2 => Q (.d (.list ys)) g2) R := by
  unfold wE wC; exact Iff.rfl
def Pl.calm (P : Pl) : Pl := { P with W := fun _ _ _ _ => False }
theorem PTs.weak {X : Cx} {e : List Expr} {t t' : TT} (h : PTs X e t) (k : ∀ σ H Q, t' σ H Q → t σ H Q) : PTs X e t' := ⟨fun pins s σ H Q I w => h.run pins s σ H Q I (k σ H Q w)⟩
theorem XOk.blk {Γ : Gam} {Φ : Calls} {sub : Nat → Nat → Bool} {k : Nat} {N : List Str} {P : Pl} {X : Cx} (ok : XOk Γ Φ sub k N P X) (s : Shared) (H : Hp) (scope : Scope) (C : Addr) (cl : List (Str × Addr)) (fp : List Addr) :
    XOk Γ Φ sub k N P.calm (X.blk s H scope (compEnvC scope cl C X.env) fp) := ⟨ok.eK, ok.eN, ok.nd, ok.calm, (fun _ _ ⟨_, _, _, _, _, _, _, _, _, _, _, _, _, _, _, _, z⟩ => z.elim), ok.quiet, ok.room, ok.sys, ok.glob⟩
theorem blkT_ok {X : Cx} {s : Shared} {H : Hp} {scope : Scope} {C : Addr} {cl : List (Str × Addr)} {fp : List Addr} (x : Str) (h : blkT scope X.env.scope x = true) :
    Loc (X.blk s H scope (compEnvC scope cl C X.env) fp).env.scope x ∧ ((X.blk s H scope (compEnvC scope cl C X.env) fp).fn x = true ∨ (X.blk s H scope (compEnvC scope cl C X.env) fp).env.scope.names.lookup x = some .local) := by
  unfold blkT at h
  split at h
  · rename_i e; exact ⟨.inl e, .inr e⟩
  · rename_i e
    refine ⟨.inr e, .inl ?_⟩
    show (scope.names.lookup x == some .cell) = true
    rw [of_decide_eq_true h]; rfl
  · cases h
section
variable {Γ : Gam} {Φ : Calls} {sub : Nat → Nat → Bool} {k : Nat} {N : List Str} (hΦ : CMono Φ)
include hΦ
theorem cStp_mono {elt : E} {tg : Tg} {t : TO} {δ : Env} (x : PyData) (g : Nat) (A A' : Option PyData → Nat → Prop) (h : ∀ o g, A o g → A' o g) (w : cStp Φ sub elt tg t δ x g A) : cStp Φ sub elt tg t δ x g A' := by
  obtain ⟨δ1, e, w⟩ := w
  refine ⟨δ1, e, wTO_mono hΦ t δ1 g _ _ _ _ (fun c g2 w2 => ?_) (fun _ _ _ _ z => z) w⟩
  cases c
  · exact h _ _ w2
  · exact wE_mono hΦ elt δ1 g2 _ _ _ _ (fun y g3 ⟨z, e, q⟩ => ⟨z, e, h _ _ q⟩) (fun _ _ _ _ z => z) w2
theorem wC_mono {elt : E} {tg : Tg} {it : It} {t : TO} {δ : Env} {g : Nat} {A A' : List PyData → Nat → Prop} {R : XPost} (h : ∀ ys g, A ys g → A' ys g) (w : wC Φ sub elt tg it t δ g A R) : wC Φ sub elt tg it t δ g A' R :=
  wIt_mono hΦ it δ g _ _ _ _ (fun ds g1 w1 => compW_mono (fun x g P P' hP w => cStp_mono hΦ x g P P' hP w) _ _ _ _ _ h w1) (fun _ _ _ _ z => z) w
theorem wC_mono2 {elt : E} {tg : Tg} {it : It} {t : TO} {δ : Env} {g : Nat} {A A' : List PyData → Nat → Prop} {R R' : XPost} (h : ∀ ys g, A ys g → A' ys g) (h' : ∀ c fs δ' g', R c fs δ' g' → R' c fs δ' g') (w : wC Φ sub elt tg it t δ g A R) : wC Φ sub elt tg it t δ g A' R' :=
  wIt_mono hΦ it δ g _ _ _ _ (fun ds g1 w1 => compW_mono (fun x g P P' hP w => cStp_mono hΦ x g P P' hP w) _ _ _ _ _ h w1) h' w
theorem ownOf_snd (is : List Nat) : (ownOf N is).map (·.2) = is := by
  unfold ownOf; rw [List.map_map]; exact List.map_id _
theorem comp_rd {P : Pl} {elt : E} {tg : Tg} {it : It} {t : TO} {σ : L2.St} {H : Hp} {Q : VK} (h : tF P (wC Φ sub elt tg it t) σ H Q) : tLc (tI P true (wIt Φ sub it)) (tG P tg) (tT P.calm (wTO Φ sub t)) (tE P.calm false (wE Φ sub elt)) ((ownOf N tg.slots).map (·.2)) σ H Q := by
  refine lc_read (f := cStp Φ sub elt tg t) (ownOf_snd hΦ _) (fun δ g A A' R hA w => wIt_mono hΦ it δ g _ _ _ _ hA (fun _ _ _ _ z => z) w) (fun δ σ1 H1 F1 g1 x d A QQ B r w hq => ?_) h
  obtain ⟨δ1, e, w⟩ := w
  refine ⟨_, F1, g1, .d d, δ1, B, r, e, fun σ' B' hw => hq σ' hw fun Nx D hn hy => ?_⟩
  refine ⟨δ1, F1, g1, B', wTO_mono hΦ t δ1 g1 _ _ _ _ (fun c g2 w2 H3 F3 G3 => ?_) (fun _ _ _ _ z => z.elim) w⟩
  cases c
  · exact hn _ _ _ G3 w2
  · refine ⟨δ1, F3, g2, B'.grow G3, wE_mono hΦ elt δ1 g2 _ _ _ _ (fun y g3 ⟨z, e, q⟩ v H4 F4 G4 r4 => ?_) (fun _ _ _ _ z => z.elim) w2⟩
    subst e
    exact hy v z g3 H4 F4 (G3.trans G4) r4 q
theorem comp_pe {P : Pl} {X : Cx} {elt : E} {tg : Tg} {it : It} {t : TO} {el tgt iter : Expr} {ifs : List Expr} {scope : Scope} {pos : Pos} (ok : XOk Γ Φ sub k N P X) (h1 : blkC N X.env.scope scope (ownOf N tg.slots) = true) (h2 : tgB N (blkT scope X.env.scope) tg tgt = true)
    (pI : PI X tgt iter (tI P true (wIt Φ sub it))) (hs : ∀ x, foldedSetIterable iter X.env x = pure x)
    (ht : ∀ (s : Shared) (H : Hp) (C : Addr) (cl : List (Str × Addr)) (fp : List Addr), PTs (X.blk s H scope (compEnvC scope cl C X.env) fp) ifs (tT P.calm (wTO Φ sub t)))
    (he : ∀ (s : Shared) (H : Hp) (C : Addr) (cl : List (Str × Addr)) (fp : List Addr), PE (X.blk s H scope (compEnvC scope cl C X.env) fp) el (tE P.calm false (wE Φ sub elt))) :
    PE X (.ListComp el [⟨tgt, iter, ifs, 0⟩] scope pos) (tF P (wC Φ sub elt tg it t)) :=
  PE.weak (pe_lc (own := ownOf N tg.slots) ok.calm (by rw [ok.eN]; exact ok.nd) pI (by rw [ok.eN]; exact blkOk_by h1) (fun s H C cl fp => sTg (P := P) (X := X.blk s H scope (compEnvC scope cl C X.env) fp) ok.eK ok.eN ok.nd ok.calm (blkT_ok (X := X)) tg tgt h2) ht he hs) fun σ H Q w => comp_rd hΦ w
end
section
variable {Γ : Gam} {Φ : Calls} {sub : Nat → Nat → Bool} {k : Nat} {N : List Str} (hΦ : CMono Φ)
include hΦ
mutual
theorem sE : ∀ (e : E) (pl : Bool) (sc : Scope) (ast : Expr) (P : Pl) (X : Cx), XOk Γ Φ sub k N P X → X.env.scope = sc → cE Γ N pl sc e ast = true → PE X ast (tE P pl (wE Φ sub e))
  | .var i, pl, sc, ast, P, X, ok, hs, h => by
    cases ast <;> try (simp only [cE] at h; cases h; done)
    rename_i x pos
    simp only [cE, Bool.and_eq_true, decide_eq_true_eq] at h
    obtain ⟨⟨h1, h2⟩, h3⟩ := h
    obtain ⟨n1, n2, n3⟩ := nm_of h3
    refine PE.weak (pe_var (i := i) (by rw [ok.eN]; exact h2) (by rw [hs]; exact vis_of h1) n1 n2) fun σ H Q ⟨δ, F, g, B, w⟩ => ?_
    unfold wE at w
    obtain ⟨v, e1, q⟩ := w
    obtain ⟨y, e2, r⟩ := B.sh i v e1
    exact ⟨y, e2, q y H F B.ok.refl (.of r)⟩
  | .peek i, pl, sc, ast, P, X, ok, hs, h => by
    cases ast <;> try (simp only [cE] at h; cases h; done)
    rename_i x pos
    simp only [cE, Bool.and_eq_true, decide_eq_true_eq] at h
    obtain ⟨⟨⟨h0, h1⟩, h2⟩, h3⟩ := h
    obtain ⟨n1, n2, n3⟩ := nm_of h3
    refine PE.weak (pe_var (i := i) (by rw [ok.eN]; exact h2) (by rw [hs]; exact vis_of h1) n1 n2) fun σ H Q ⟨δ, F, g, B, w⟩ => ?_
    unfold wE at w
    obtain ⟨ds, e1, q⟩ := w
    obtain ⟨a, xs, e2, h4, h5, h6, h7, h8⟩ := B.ow i ds e1
    refine ⟨_, e2, q _ H F B.ok.refl ?_⟩
    subst h0
    exact .inr ⟨a, xs, ds, rfl, rfl, h4, h7, h5⟩
  | .cst d, pl, sc, ast, P, X, ok, hs, h => by
    cases ast <;> try (simp only [cE] at h; cases h; done)
    rename_i c j pos
    simp only [cE] at h
    have go : ∀ v, RP P.C.K (fun _ => False) (fun _ => none) v d → PE X (.Constant c j pos) (tC v) → PE X (.Constant c j pos) (tE P pl (wE Φ sub (.cst d))) := fun v r p =>
      PE.weak p fun σ H Q ⟨δ, F, g, B, w⟩ => by
        unfold wE at w
        exact w v H F B.ok.refl (.of (r.mono ⟨fun _ z => z.elim, fun _ z => z.elim, (fun _ _ z => by cases z), (fun _ _ _ z => by cases z)⟩))
    unfold cstB at h
    split at h
    · exact go .non .non pe_non
    · have := of_decide_eq_true h; subst this; exact go _ (.bl _) pe_bl
    · have := of_decide_eq_true h; subst this; exact go _ (.int _) pe_int
    · have := of_decide_eq_true h; subst this; exact go _ (.str _) pe_str
    · cases h
  | .glo x d, pl, sc, ast, P, X, ok, hs, h => by
    cases ast <;> try (simp only [cE] at h; cases h; done)
    rename_i y pos
    simp only [cE, Bool.and_eq_true, decide_eq_true_eq, List.any_eq_true] at h
    obtain ⟨⟨⟨rfl, h1⟩, h2⟩, ⟨p1, p2⟩, hm, e1, e2⟩ := h
    simp only at e1 e2
    subst e1
    have := pdB_eq e2
    subst this
    obtain ⟨u, v, e, r, rp⟩ := ok.glob.con _ _ hm
    subst hs
    refine PE.weak (pe_glob (gl_of h1) e r (nm_of h2).1) fun σ H Q ⟨δ, F, g, B, w⟩ => ?_
    unfold wE at w
    exact w v H F B.ok.refl (.of (rp F H))
  | .tup es, pl, sc, ast, P, X, ok, hs, h => by
    cases ast <;> try (simp only [cE] at h; cases h; done)
    simp only [cE] at h
    refine PE.weak (pe_tup (sEs es false sc _ P X ok hs h)) fun σ H Q ⟨δ, F, g, B, w⟩ => ?_
    unfold wE at w
    refine thenEs hΦ B w (fun x g1 v H1 F1 ⟨xs, e1, e2, q⟩ G B1 r => ?_) fun _ _ _ _ z => z
    have rp := RVs.all r e1
    refine ⟨by rw [rp.length]; exact le_line e2, fun p hp => ?_⟩
    have G2 := B1.ok.alloc (.tup v) hp
    exact q _ _ _ (G.trans G2) (.of (show RP _ _ _ _ _ from .tup (SqT.of upd_same) (rp.mono (G2.ext B1.ok))))
  | .lst es, pl, sc, ast, P, X, ok, hs, h => by
    cases ast <;> try (simp only [cE] at h; cases h; done)
    simp only [cE] at h
    refine PE.weak (pe_lst (sEs es false sc _ P X ok hs h)) fun σ H Q ⟨δ, F, g, B, w⟩ => ?_
    unfold wE at w
    refine thenEs hΦ B w (fun x g1 v H1 F1 ⟨xs, e1, e2, q⟩ G B1 r => ?_) fun _ _ _ _ z => z
    have rp := RVs.all r e1
    refine ⟨by rw [rp.length]; exact le_line e2, fun p hp => ?_⟩
    have G2 := B1.ok.allocF (.lst v) hp
    exact q _ _ _ (G.trans G2) (.of (show RP _ _ _ _ _ from .lst (.inr rfl) upd_same (rp.mono (G2.ext B1.ok))))
  | .dic, pl, sc, ast, P, X, ok, hs, h => by
    cases ast <;> try (simp only [cE] at h; cases h; done)
    rename_i ks vs pos
    cases ks <;> try (simp only [cE] at h; cases h; done)
    cases vs <;> try (simp only [cE] at h; cases h; done)
    refine PE.weak pe_dnewK fun σ H Q ⟨δ, F, g, B, w⟩ p hp => ?_
    unfold wE at w
    have G2 := B.ok.allocF (.dK []) hp
    exact w _ _ _ G2 (.of (show RP _ _ _ _ _ from .dic (.inr rfl) upd_same))
  | .bin o a b, pl, sc, ast, P, X, ok, hs, h => by
    cases ast <;> try (simp only [cE] at h; cases h; done)
    simp only [cE, Bool.and_eq_true] at h
    obtain ⟨⟨h1, h2⟩, h3⟩ := h
    have := opBB_eq h1
    subst this
    refine PE.weak (pe_op (op_bin ok.eK o) (sE a true sc _ P X ok hs h2) (sE b true sc _ P X ok hs h3)) fun σ H Q ⟨δ, F, g, B, w⟩ => ?_
    unfold wE at w
    refine thenE hΦ B w (fun x g1 v H1 F1 w1 G1 B1 r1 => ?_) fun _ _ _ _ z => z
    refine thenE hΦ B1 w1 (fun y g2 u H2 F2 ⟨z, e, q⟩ G2 B2 r2 => ?_) fun _ _ _ _ z => z.grow G1
    exact ⟨F2, g2, x, y, z, B2.ok, r1.tv.grow B1.ok G2, r2.tv, e, fun v' H' F' G' r' => q v' H' F' ((G1.trans G2).trans G') (.of r')⟩
  | .cmp o a b, pl, sc, ast, P, X, ok, hs, h => by
    cases ast <;> try (simp only [cE] at h; cases h; done)
    rename_i x ops ys pos
    cases ops with
    | nil => simp only [cE] at h; cases h
    | cons op ops =>
      cases ops with
      | cons _ _ => simp only [cE] at h; cases h
      | nil =>
        cases ys with
        | nil => simp only [cE] at h; cases h
        | cons y ys =>
          cases ys with
          | cons _ _ => simp only [cE] at h; cases h
          | nil =>
            simp only [cE, Bool.and_eq_true, Bool.not_eq_true'] at h
            obtain ⟨⟨⟨h1, h0⟩, h2⟩, h3⟩ := h
            have := opCB_eq h1
            subst this
            refine PE.weak (pe_cmpR (op_cmp ok.eK ok.sys (by have := ok.units; omega) o) (sE a true sc _ P X ok hs h2) (sE b true sc _ P X ok hs h3) h0) fun σ H Q ⟨δ, F, g, B, w⟩ => ?_
            unfold wE at w
            refine thenE hΦ B w (fun x g1 v H1 F1 w1 G1 B1 r1 => ?_) fun _ _ _ _ z => z
            refine thenE hΦ B1 w1 (fun y g2 u H2 F2 ⟨z, e, q⟩ G2 B2 r2 => ?_) fun _ _ _ _ z => z.grow G1
            exact ⟨F2, g2, x, y, z, B2.ok, r1.tv.grow B1.ok G2, r2.tv, e, q _ _ _ (G1.trans G2) (.of (show RP _ _ _ _ _ from .bl z))⟩
  | .and2 a b, pl, sc, ast, P, X, ok, hs, h => by
    cases ast <;> try (simp only [cE] at h; cases h; done)
    rename_i op xs pos
    cases op <;> try (simp only [cE] at h; cases h; done)
    cases xs with
    | nil => simp only [cE] at h; cases h
    | cons x xs =>
      cases xs with
      | nil => simp only [cE] at h; cases h
      | cons y rest =>
        simp only [cE, Bool.and_eq_true] at h
        refine PE.weak (pe_and (sE a false sc _ P X ok hs h.1) (sE b false sc _ P X ok hs h.2)) fun σ H Q ⟨δ, F, g, B, w⟩ => ?_
        unfold wE at w
        refine thenE hΦ B w (fun x g1 v H1 F1 ⟨c, e, w1⟩ G1 B1 r1 => ?_) fun _ _ _ _ z => z
        subst e
        refine ⟨c, r1.tv.bool, ?_⟩
        cases c
        · exact w1 _ _ _ G1 (.of (show RP _ _ _ _ _ from .bl _))
        · exact thenE hΦ B1 w1 (fun y g2 u H2 F2 q G2 B2 r2 => q _ _ _ (G1.trans G2) (.of r2)) fun _ _ _ _ z => z.grow G1
  | .or2 a b, pl, sc, ast, P, X, ok, hs, h => by
    cases ast <;> try (simp only [cE] at h; cases h; done)
    rename_i op xs pos
    cases op <;> try (simp only [cE] at h; cases h; done)
    cases xs with
    | nil => simp only [cE] at h; cases h
    | cons x xs =>
      cases xs with
      | nil => simp only [cE] at h; cases h
      | cons y rest =>
        simp only [cE, Bool.and_eq_true] at h
        refine PE.weak (pe_or (sE a false sc _ P X ok hs h.1) (sE b false sc _ P X ok hs h.2)) fun σ H Q ⟨δ, F, g, B, w⟩ => ?_
        unfold wE at w
        refine thenE hΦ B w (fun x g1 v H1 F1 ⟨c, e, w1⟩ G1 B1 r1 => ?_) fun _ _ _ _ z => z
        subst e
        refine ⟨c, r1.tv.bool, ?_⟩
        cases c
        · exact thenE hΦ B1 w1 (fun y g2 u H2 F2 q G2 B2 r2 => q _ _ _ (G1.trans G2) (.of r2)) fun _ _ _ _ z => z.grow G1
        · exact w1 _ _ _ G1 (.of (show RP _ _ _ _ _ from .bl _))
  | .one a, pl, sc, ast, P, X, ok, hs, h => by
    cases ast <;> try (simp only [cE] at h; cases h; done)
    rename_i op xs pos
    cases xs with
    | nil => simp only [cE] at h; cases h
    | cons x xs =>
      cases xs with
      | cons _ _ => simp only [cE] at h; cases h
      | nil =>
        simp only [cE] at h
        refine PE.weak (pe_one (sE a false sc _ P X ok hs h)) fun σ H Q ⟨δ, F, g, B, w⟩ => ?_
        unfold wE at w
        exact thenE hΦ B w (fun x g1 v H1 F1 q G1 B1 r1 => q _ _ _ G1 (.of r1)) fun _ _ _ _ z => z
  | .not1 a, pl, sc, ast, P, X, ok, hs, h => by
    cases ast <;> try (simp only [cE] at h; cases h; done)
    rename_i op x pos
    cases op <;> try (simp only [cE] at h; cases h; done)
    simp only [cE] at h
    refine PE.weak (pe_not (sE a false sc _ P X ok hs h)) fun σ H Q ⟨δ, F, g, B, w⟩ => ?_
    unfold wE at w
    refine thenE hΦ B w (fun x g1 v H1 F1 ⟨c, e, q⟩ G1 B1 r1 => ?_) fun _ _ _ _ z => z
    subst e
    exact ⟨c, r1.tv.bool, q _ _ _ G1 (.of (show RP _ _ _ _ _ from .bl _))⟩
  | .ite t a b, pl, sc, ast, P, X, ok, hs, h => by
    cases ast <;> try (simp only [cE] at h; cases h; done)
    simp only [cE, Bool.and_eq_true] at h
    refine PE.weak (pe_ifExp (sT2 t sc _ P X ok hs h.1.1).1 (sE a false sc _ P X ok hs h.1.2) (sE b false sc _ P X ok hs h.2)) fun σ H Q ⟨δ, F, g, B, w⟩ => ?_
    unfold wE at w
    refine thenT hΦ B w (fun c g1 H1 F1 w1 G1 B1 => ?_) fun _ _ _ _ z => z
    cases c
    · exact thenE hΦ B1 w1 (fun y g2 u H2 F2 q G2 B2 r2 => q _ _ _ (G1.trans G2) (.of r2)) fun _ _ _ _ z => z.grow G1
    · exact thenE hΦ B1 w1 (fun y g2 u H2 F2 q G2 B2 r2 => q _ _ _ (G1.trans G2) (.of r2)) fun _ _ _ _ z => z.grow G1
  | .sub a i, pl, sc, ast, P, X, ok, hs, h => by
    cases ast <;> try (simp only [cE] at h; cases h; done)
    simp only [cE, Bool.and_eq_true, Bool.not_eq_true'] at h
    obtain ⟨⟨h0, h1⟩, h2⟩ := h
    refine PE.weak (pe_ix (ix_at ok.eK) (sE a true sc _ P X ok hs h1) (sE i true sc _ P X ok hs h2) (plain_ix h0)) fun σ H Q ⟨δ, F, g, B, w⟩ => ?_
    unfold wE at w
    refine thenE hΦ B w (fun x g1 v H1 F1 w1 G1 B1 r1 => ?_) fun _ _ _ _ z => z
    refine thenE hΦ B1 w1 (fun y g2 u H2 F2 ⟨z, e, q⟩ G2 B2 r2 => ?_) fun _ _ _ _ z => z.grow G1
    exact ⟨F2, g2, x, y, z, B2.ok, r1.tv.grow B1.ok G2, r2.tv, e, fun v' r' => q v' _ _ (G1.trans G2) (.of r')⟩
  | .sli a lo hi, pl, sc, ast, P, X, ok, hs, h => by
    cases ast <;> try (simp only [cE] at h; cases h; done)
    rename_i x y pos
    cases y <;> try (simp only [cE] at h; cases h; done)
    rename_i l u st p2
    cases st with
    | some _ => simp only [cE] at h; cases h
    | none =>
      simp only [cE, Bool.and_eq_true] at h
      obtain ⟨⟨h0, h1⟩, h2⟩ := h
      refine PE.weak (pe_slice (sl_cut ok.eK) (sE a true sc _ P X ok hs h0) (sO lo sc _ P X ok hs h1) (sO hi sc _ P X ok hs h2)) fun σ H Q ⟨δ, F, g, B, w⟩ => ?_
      unfold wE at w
      refine thenE hΦ B w (fun x g1 v H1 F1 w1 G1 B1 r1 => ?_) fun _ _ _ _ z => z
      refine thenO hΦ B1 w1 (fun l g2 H2 F2 w2 G2 B2 => ?_) fun _ _ _ _ z => z.grow G1
      refine thenO hΦ B2 w2 (fun u g3 H3 F3 ⟨z, e, q⟩ G3 B3 => ?_) fun _ _ _ _ z => z.grow (G1.trans G2)
      exact ⟨F3, g3, x, z, B3.ok, (r1.tv.grow B1.ok G2).grow B2.ok G3, e, fun v' H' F' G' r' => q v' H' F' (((G1.trans G2).trans G3).trans G') (.of r')⟩
  | .call f es, pl, sc, ast, P, X, ok, hs, h => by
    cases ast <;> try (simp only [cE] at h; cases h; done)
    rename_i fe as kws pos
    cases fe <;> try (simp only [cE] at h; cases h; done)
    rename_i x p
    cases kws with
    | cons _ _ => simp only [cE] at h; cases h
    | nil =>
      simp only [cE, Bool.and_eq_true, decide_eq_true_eq] at h
      obtain ⟨⟨⟨h0, h1⟩, h2⟩, h3⟩ := h
      obtain ⟨a, fd, ps, e1, e2, e3, FG⟩ := ok.glob.fn f x h0
      rw [← ok.eK] at e2 e3 FG
      subst hs
      have fin : ∀ {t : TA}, (∀ σ H Q, tEs P false (wEs Φ sub es) σ H Q → t σ H Q) → ∀ σ H Q, tE P pl (wE Φ sub (.call f es)) σ H Q → tCallS (spF P.C Φ f) (WE P.W) t σ H Q := fun ht σ H Q ⟨δ, F, g, B, w⟩ => by
        unfold wE at w
        refine ht σ H _ (thenEs hΦ B w (fun vs g1 us H1 F1 w1 G1 B1 r1 => ?_) fun _ _ _ _ z => z)
        exact ⟨F1, g1, vs, B1.ok, r1, hΦ f vs g1 _ _ _ _ (fun r g' q v H' F' G' rv => q v H' F' (G1.trans G') (.of rv)) (fun c fs g' q cls d H' F' G' xr => q cls d H' F' (G1.trans G') xr) w1⟩
      cases as with
      | nil =>
        refine PE.weak (pe_g0 FG ok.room ok.quiet e3 ok.tk (gl_of h1) e1 e2 (nm_of h2).1) (fin fun σ H Q t => ?_)
        cases es with
        | cons _ _ => simp only [cEs] at h3; cases h3
        | nil =>
          obtain ⟨δ, F, g, B, w⟩ := t
          unfold wEs at w
          exact w [] H F B.ok.refl .nil
      | cons y ys =>
        have st : starB y = false ∧ ys.any starB = false := cEs_star h3
        exact PE.weak (pe_g1 FG ok.room ok.quiet e3 ok.tk (gl_of h1) e1 e2 (nm_of h2).1 (sEs es false _ _ P X ok rfl h3) (star_cons st.1 _ _) (star_any st.2 _ _)) (fin fun σ H Q t => t)
  | .blt b es, pl, sc, ast, P, X, ok, hs, h => by
    cases ast <;> try (simp only [cE] at h; cases h; done)
    rename_i fe as kws pos
    cases fe <;> try (simp only [cE] at h; cases h; done)
    rename_i x p
    cases as with
    | nil => simp only [cE] at h; cases h
    | cons y ys =>
      cases kws with
      | cons _ _ => simp only [cE] at h; cases h
      | nil =>
        simp only [cE, Bool.and_eq_true, decide_eq_true_eq] at h
        obtain ⟨⟨h0, h1⟩, h3⟩ := h
        subst h0
        subst hs
        have st : starB y = false ∧ ys.any starB = false := cEs_star h3
        have mn : X.mg (bltN b) = none := ok.glob.blt _ (by cases b <;> simp [bltN, bltNames])
        have pa := sEs es true _ _ P X ok rfl h3
        have cr := call_blt ok.eK ok.sys ok.calm ok.quiet ok.units b
        have fin : ∀ σ H Q, tE P pl (wE Φ sub (.blt b es)) σ H Q → tCB (rBl P.C b) (tEs P true (wEs Φ sub es)) σ H Q := fun σ H Q ⟨δ, F, g, B, w⟩ => by
          unfold wE at w
          refine thenEs hΦ B w (fun vs g1 us H1 F1 ⟨z, e, q⟩ G1 B1 r1 => ?_) fun _ _ _ _ z => z
          exact ⟨F1, g1, vs, z, B1.ok, r1, e, fun v H' F' G' rv => q v H' F' (G1.trans G') (.of rv)⟩
        cases b with
        | len => exact PE.weak (pe_callB cr (gl_of h1) mn (by decide +kernel) pa (by decide) (by decide) (star_cons st.1 _ _) (star_any st.2 _ _)) fin
        | repr => exact PE.weak (pe_callB cr (gl_of h1) mn (by decide +kernel) pa (by decide) (by decide) (star_cons st.1 _ _) (star_any st.2 _ _)) fin
        | min2 => exact PE.weak (pe_callB cr (gl_of h1) mn (by decide +kernel) pa (by decide) (by decide) (star_cons st.1 _ _) (star_any st.2 _ _)) fin
        | list => exact PE.weak (pe_callTy cr (gl_of h1) mn (by decide +kernel) pa (by decide) (by decide) (star_cons st.1 _ _) (star_any st.2 _ _)) fin
        | tuple => exact PE.weak (pe_callTy cr (gl_of h1) mn (by decide +kernel) pa (by decide) (by decide) (star_cons st.1 _ _) (star_any st.2 _ _)) fin
  | .isi a t, pl, sc, ast, P, X, ok, hs, h => by
    cases ast <;> try (simp only [cE] at h; cases h; done)
    rename_i fe as kws pos
    cases fe <;> try (simp only [cE] at h; cases h; done)
    rename_i f p
    match as, kws, h with
    | [x, .Name y py], [], h =>
      simp only [cE, Bool.and_eq_true, decide_eq_true_eq] at h
      obtain ⟨⟨⟨⟨⟨h0, h1⟩, h2⟩, h3⟩, ht⟩, h4⟩ := h
      subst h0 h2
      subst hs
      have sx : starB x = false := cE_star h4
      have mn : X.mg "isinstance" = none := ok.glob.blt _ (by simp [bltNames])
      have mt : X.mg (Str.ofString t) = none := ok.glob.blt _ (tyNames_in ht)
      refine PE.weak (pe_callB call_isi (gl_of h1) mn (by decide +kernel) (pa_cons (sE a true _ _ P X ok rfl h4) (pa_cons (pe_bltn (gl_of h3) mt (tyNames_boot ht) (v := .ty t) rfl (tyNames_name ht).1 (tyNames_name ht).2) pa_nil rfl) (star_cons sx _ _)) (by decide) (by decide) (star_cons sx _ _) rfl) fun σ H Q ⟨δ, F, g, B, w⟩ => ?_
      unfold wE at w
      refine thenE hΦ B w (fun x g1 v H1 F1 ⟨y, z, e1, e2, q⟩ G1 B1 r1 => ?_) fun _ _ _ _ z => z
      subst e1
      exact ⟨v, .ty t, _, _, z, rfl, .ty t, r1.tv.ty ok.eK, kit_ty (isi_kit e2), q _ _ _ G1 (.of (show RP _ _ _ _ _ from .bl _))⟩
  | .draw i m, pl, sc, ast, P, X, ok, hs, h => by
    cases ast <;> try (simp only [cE] at h; cases h; done)
    rename_i fe as kws pos
    cases fe <;> try (simp only [cE] at h; cases h; done)
    rename_i f p
    match as, kws, h with
    | [.Name x px, e], [], h =>
      simp only [cE, Bool.and_eq_true, decide_eq_true_eq, Bool.not_eq_true'] at h
      obtain ⟨⟨⟨⟨⟨⟨h0, h1⟩, h2⟩, h3⟩, h4⟩, h5⟩, h6⟩ := h
      subst h0
      subst hs
      obtain ⟨a, fd, e1, e2, e3, FG⟩ := ok.glob.drw
      obtain ⟨n1, n2, n3⟩ := nm_of h4
      have e3 : Binds X.K fd ["_law_state", "_law_many"] [] := by rw [ok.eK]; exact e3
      have e2 : PySem.W.keepIn X.K (.ref a) = true := by rw [ok.eK]; exact e2
      have FG : FnG X.prog X.w X.K X.mg X.base k a fd ["_law_state", "_law_many"] (spD P.C) := by rw [ok.eK]; exact FG
      refine PE.weak (pe_g1 FG ok.room ok.quiet e3 ok.tk (gl_of h1) e1 e2 (by decide +kernel) (pa_cons (pe_var (i := i) (by rw [ok.eN]; exact h3) (vis_of h2) n1 n2) (pa_cons (sE m false _ _ P X ok rfl h6) pa_nil (star_cons h5 _ _)) rfl) rfl (star_any (by rw [List.any_cons, h5]; rfl) _ _)) fun σ H Q ⟨δ, F, g, B, w⟩ => ?_
      unfold wE at w
      obtain ⟨es, w⟩ := w
      obtain ⟨y, ey, ry⟩ := B.sh i _ es
      refine ⟨y, ey, thenE hΦ B w (fun x g1 v H1 F1 ⟨kk, e, h7, h8, h9, q⟩ G1 B1 r1 => ?_) fun _ _ _ _ z => z⟩
      subst e
      refine ⟨F1, g1, kk, B1.ok, ?_, h7, h8, h9, fun n H' h10 h11 G => q n h10 h11 _ _ _ (G1.trans G) (.of (show RP _ _ _ _ _ from .int _))⟩
      rw [(show RX true P.C F1 H1 v (.d (.int kk)) from .inl r1).tv.int, (show y = .ref P.C.st from ry)]
  | .isx i c, pl, sc, ast, P, X, ok, hs, h => by
    cases ast <;> try (simp only [cE] at h; cases h; done)
    rename_i fe as kws pos
    cases fe <;> try (simp only [cE] at h; cases h; done)
    rename_i f p
    match as, kws, h with
    | [.Name x px, .Name y py], [], h =>
      simp only [cE, Bool.and_eq_true, decide_eq_true_eq] at h
      obtain ⟨⟨⟨⟨⟨⟨⟨h0, h1⟩, h2⟩, h3⟩, h4⟩, h5⟩, h6⟩, h7⟩ := h
      subst h0
      subst hs
      obtain ⟨n1, n2, n3⟩ := nm_of h4
      have mn : X.mg "isinstance" = none := ok.glob.blt _ (by simp [bltNames])
      obtain ⟨mc, oc⟩ := ok.glob.cls c y h5
      refine PE.weak (pe_callB (call_isx ok.eK ok.glob.ecl oc) (gl_of h1) mn (by decide +kernel) (pa_cons (pe_var (i := i) (by rw [ok.eN]; exact h3) (vis_of h2) n1 n2) (pa_cons (pe_glob (v := .ref (P.C.cls c)) (gl_of h6) mc rfl (nm_of h7).1) pa_nil rfl) rfl) (by decide) (by decide) rfl rfl) fun σ H Q ⟨δ, F, g, B, w⟩ => ?_
      unfold wE at w
      obtain ⟨c', fs, es, q⟩ := w
      obtain ⟨z, ez, rz⟩ := B.sh i _ es
      exact ⟨z, ez, F, g, c', fs, z, rfl, B.ok, rz, q _ _ _ B.ok.refl (.of (show RP _ _ _ _ _ from .bl _))⟩
  | .fld i f, pl, sc, ast, P, X, ok, hs, h => by
    cases ast <;> try (simp only [cE] at h; cases h; done)
    rename_i oe g pos
    cases oe <;> try (simp only [cE] at h; cases h; done)
    rename_i x px
    simp only [cE, Bool.and_eq_true, decide_eq_true_eq] at h
    obtain ⟨⟨⟨⟨h2, h3⟩, h4⟩, h5⟩, h6⟩ := h
    subst h5
    subst hs
    obtain ⟨n1, n2, n3⟩ := nm_of h4
    refine PE.weak (pe_xfld ok.eK ok.glob.ecl (fun c => ok.glob.fno c _ h6) (pe_var (i := i) (by rw [ok.eN]; exact h3) (vis_of h2) n1 n2)) fun σ H Q ⟨δ, F, g, B, w⟩ => ?_
    unfold wE at w
    obtain ⟨c', fs, x, es, el, q⟩ := w
    obtain ⟨z, ez, rz⟩ := B.sh i _ es
    exact ⟨z, ez, F, g, c', fs, x, B.ok, rz, el, fun v r => q v _ _ B.ok.refl (.of r)⟩
  | .cnt a h' x, pl, sc, ast, P, X, ok, hs, h => by
    cases hv : vCnt ast with
    | none => simp only [cE, hv] at h; cases h
    | some t =>
      obtain ⟨y, z, m, u, l⟩ := t
      obtain ⟨p, q, apos, cpos, rfl, hl⟩ := vCnt_inv hv
      simp only [cE, hv, Bool.and_eq_true, decide_eq_true_eq, Bool.not_eq_true'] at h
      obtain ⟨⟨⟨⟨⟨rfl, h1⟩, h2⟩, h3⟩, h4⟩, h5⟩ := h
      subst h1
      refine PE.weak (pe_mG tyF_ok F.plainAttrs_tuple F.slot_tuple_count F.type_tuple_count (mt_cnt ok.eK ok.sys ok.units) (pe_slice sl_tupF (sE a true sc y P X ok hs h2) po_none (po_some (sE h' true sc z P X ok hs h3))) (pa_cons (sE x true sc u P X ok hs h5) pa_nil (star_cons h4 _ _)) rfl (few1 h4) hl (star_cons h4 _ _) rfl) fun σ H Q ⟨δ, F, g, B, w⟩ => ?_
      unfold wE at w
      refine thenE hΦ B w (fun x1 g1 v1 H1 F1 w1 G1 B1 r1 => ?_) fun _ _ _ _ z => z
      refine thenE hΦ B1 w1 (fun x2 g2 v2 H2 F2 w2 G2 B2 r2 => ?_) fun _ _ _ _ z => z.grow G1
      obtain ⟨xs, i, rfl, rfl, i0, i1, pa, w2⟩ := w2
      obtain ⟨t, vs, rfl, t1, t2⟩ := (r1.tv.grow B1.ok G2).tup
      refine ⟨i, r2.tv.int, t, vs, i, rfl, rfl, rfl, i0, by rw [t2.length]; exact i1, by rw [ok.eK]; exact t1, fun c o hc hd ho => ⟨⟨c, o, _, rfl, upd_same, hd, ho⟩, ?_⟩⟩
      have G3 := B2.ok.alloc (.frz o (.tup (vs.take i.toNat))) hc
      have B3 := B2.grow G3
      refine thenE hΦ B3 w2 (fun x3 g3 v3 H3 F3 ⟨d, ed, d1, d2, q⟩ G4 B4 r3 => ?_) fun _ _ _ _ z => (z.grow (G1.trans G2)).grow G3
      subst ed
      have e34 := (G3.trans G4).ext B2.ok
      exact ⟨F3, g3, c, vs.take i.toNat, xs.take i.toNat, v3, d, B4.ok, rfl, rfl, .inl (.inr ⟨o, (G4.ext B3.ok).frz _ _ _ upd_same⟩), (t2.take i.toNat).mono e34, r3.tv, pa, d1, d2, q _ _ _ (((G1.trans G2).trans G3).trans G4) (.of (show RP _ _ _ _ _ from .int _))⟩
  | .comp elt tg it t, pl, sc, ast, P, X, ok, hs, h => by
    cases ast <;> try (simp only [cE] at h; cases h; done)
    rename_i el gens scope pos
    match gens, h with
    | [⟨tgt, iter, ifs, 0⟩], h =>
      simp only [cE, Bool.and_eq_true] at h
      obtain ⟨⟨⟨⟨h1, h2⟩, h3⟩, h4⟩, h5⟩ := h
      subst hs
      have pI := sIt it true _ tgt iter P X ok rfl h3
      refine PE.weak (comp_pe (elt := elt) (t := t) hΦ ok h1 h2 pI.1 pI.2 (fun s H C cl fp => sTO t _ ifs P.calm _ (ok.blk s H scope C cl fp) rfl h4) (fun s H C cl fp => sE elt false _ el P.calm _ (ok.blk s H scope C cl fp) rfl h5)) fun σ H Q ⟨δ, F, g, B, w⟩ => ?_
      refine ⟨δ, F, g, B, wC_mono hΦ (fun ys g2 q D xs H' F' G hn hD hF rs => ?_) (wE_comp.mp w)⟩
      obtain ⟨G2, ex⟩ := G.frzD B.ok hn hD
      exact q _ _ _ G2 (.of (show RP _ _ _ _ _ from .lst (.inr rfl) hD (rs.mono ex)))
theorem sIt : ∀ (it : It) (pl : Bool) (sc : Scope) (tg ast : Expr) (P : Pl) (X : Cx), XOk Γ Φ sub k N P X → X.env.scope = sc → cIt Γ N pl sc tg it ast = true → PI X tg ast (tI P pl (wIt Φ sub it)) ∧ ∀ x, foldedSetIterable ast X.env x = pure x
  | .seq e, pl, sc, tg, ast, P, X, ok, hs, h => by
    have h' : (!setB ast && cE Γ N pl sc e ast) = true := by
      unfold cIt at h
      exact h
    rw [Bool.and_eq_true, Bool.not_eq_true'] at h'
    refine ⟨PI.weak (pi_seq (sE e pl sc _ P X ok hs h'.2)) fun σ H Q ⟨δ, F, g, B, w⟩ => ?_, fun x => by cases ast <;> first | rfl | cases h'.1⟩
    unfold wIt at w
    refine thenE hΦ B w (fun x g1 v H1 F1 ⟨xs, e, q⟩ G1 B1 r1 => ?_) fun _ _ _ _ z => z
    rcases itS_seq e with e | e
    · subst e
      obtain ⟨a, vs, rfl, h1, r2⟩ := r1.tv.tup
      exact ⟨a, vs, rfl, .inr ⟨by rw [ok.eK]; exact h1, by rw [ok.eK]; exact q _ _ _ G1 (.tup h1 r2)⟩⟩
    · subst e
      obtain ⟨a, vs, rfl, h1, r2⟩ := r1.ls B1.ok
      exact ⟨a, vs, rfl, .inl ⟨SqL.of h1.1, by rw [ok.eK]; exact q _ _ _ G1 (.lst h1 r2)⟩⟩
  | .rng e, pl, sc, tg, ast, P, X, ok, hs, h => by
    cases ast <;> try (simp only [cIt] at h; cases h; done)
    rename_i fe as kws pos
    cases fe <;> try (simp only [cIt] at h; cases h; done)
    rename_i f p
    match as, kws, h with
    | [x], [], h =>
      simp only [cIt, Bool.and_eq_true, decide_eq_true_eq, Bool.not_eq_true'] at h
      obtain ⟨⟨⟨rfl, h1⟩, h2⟩, h3⟩ := h
      subst hs
      have mn : X.mg "range" = none := ok.glob.blt _ (by simp [bltNames])
      refine ⟨PI.weak (pi_range1 (gl_of h1) mn (pa_cons (sE e true _ _ P X ok rfl h3) pa_nil (star_cons h2 _ _)) (star_cons h2 _ _)) fun σ H Q ⟨δ, F, g, B, w⟩ => ?_, fun x => rfl⟩
      unfold wIt at w
      refine thenE hΦ B w (fun x g1 v H1 F1 ⟨xs, e, q⟩ G1 B1 r1 => ?_) fun _ _ _ _ z => z
      obtain ⟨n, rfl, h4, h5, rfl⟩ := itS_rng e
      exact ⟨_, by rw [r1.tv.int], h4, h5, q _ _ _ G1 (.rng _)⟩
  | .enum e, pl, sc, tg, ast, P, X, ok, hs, h => by
    cases ast <;> try (simp only [cIt] at h; cases h; done)
    rename_i fe as kws pos
    cases fe <;> try (simp only [cIt] at h; cases h; done)
    rename_i f p
    match as, kws, h with
    | [x], [], h =>
      simp only [cIt, Bool.and_eq_true, decide_eq_true_eq, Bool.not_eq_true'] at h
      obtain ⟨⟨⟨⟨h0, rfl⟩, h1⟩, h2⟩, h3⟩ := h
      subst hs
      have mn : X.mg "enumerate" = none := ok.glob.blt _ (by simp [bltNames])
      cases tg <;> try (cases h0; done)
      refine ⟨PI.weak (pi_enumT (gl_of h1) mn (pa_cons (sE e pl _ _ P X ok rfl h3) pa_nil (star_cons h2 _ _)) (star_cons h2 _ _)) fun σ H Q ⟨δ, F, g, B, w⟩ => ?_, fun x => rfl⟩
      unfold wIt at w
      refine thenE hΦ B w (fun x g1 v H1 F1 ⟨xs, e, q⟩ G1 B1 r1 => ?_) fun _ _ _ _ z => z
      obtain ⟨ys, ez, rfl⟩ := itS_enum e
      rcases ez with ez | ez
      · subst ez
        obtain ⟨a, vs, rfl, h1, r2⟩ := r1.tv.tup
        exact ⟨a, vs, rfl, .inr ⟨by rw [ok.eK]; exact h1, by rw [ok.eK]; exact q _ _ _ G1 (.ent h1 r2)⟩⟩
      · subst ez
        obtain ⟨a, vs, rfl, h1, r2⟩ := r1.ls B1.ok
        exact ⟨a, vs, rfl, .inl ⟨SqL.of h1.1, by rw [ok.eK]; exact q _ _ _ G1 (.enl h1 r2)⟩⟩
theorem sTO : ∀ (t : TO) (sc : Scope) (ast : List Expr) (P : Pl) (X : Cx), XOk Γ Φ sub k N P X → X.env.scope = sc → cTO Γ N sc t ast = true → PTs X ast (tT P (wTO Φ sub t))
  | .non, sc, ast, P, X, ok, hs, h => by
    cases ast with
    | cons _ _ => simp only [cTO] at h; cases h
    | nil =>
      refine PTs.weak pts_nil fun σ H Q ⟨δ, F, g, B, w⟩ => ?_
      unfold wTO at w
      exact w _ _ B.ok.refl
  | .som t, sc, ast, P, X, ok, hs, h => by
    match ast, h with
    | [x], h =>
      simp only [cTO] at h
      refine PTs.weak (pts_one (sT2 t sc x P X ok hs h).1) fun σ H Q ⟨δ, F, g, B, w⟩ => ?_
      unfold wTO at w
      exact ⟨δ, F, g, B, w⟩
theorem sO : ∀ (o : O) (sc : Scope) (ast : Option Expr) (P : Pl) (X : Cx), XOk Γ Φ sub k N P X → X.env.scope = sc → cO Γ N sc o ast = true → PO X ast (tO P (wO Φ sub o))
  | .non, sc, ast, P, X, ok, hs, h => by
    cases ast with
    | some _ => simp only [cO] at h; cases h
    | none =>
      refine PO.weak po_none fun σ H Q ⟨δ, F, g, B, w⟩ => ?_
      unfold wO at w
      exact w H F B.ok.refl
  | .som e, sc, ast, P, X, ok, hs, h => by
    cases ast with
    | none => simp only [cO] at h; cases h
    | some x =>
      simp only [cO] at h
      refine PO.weak (po_some (sE e true sc _ P X ok hs h)) fun σ H Q ⟨δ, F, g, B, w⟩ => ?_
      unfold wO at w
      refine thenE hΦ B w (fun x g1 v H1 F1 ⟨i, e, q⟩ G1 B1 r1 => ?_) fun _ _ _ _ z => z
      subst e
      exact ⟨i, r1.tv.int, q _ _ G1⟩
theorem sT2 : ∀ (t : T) (sc : Scope) (ast : Expr) (P : Pl) (X : Cx), XOk Γ Φ sub k N P X → X.env.scope = sc → cT Γ N sc t ast = true → PT X ast (tT P (wT Φ sub t)) ∧ ∀ op xs pos, ast = .BoolOp op xs pos → PW X ast (tT P (wT Φ sub t))
  | .val e, sc, ast, P, X, ok, hs, h => by
    simp only [cT, Bool.and_eq_true] at h
    refine ⟨PT.weak (pt_val (sE e true sc _ P X ok hs h.2) (plain_true h.1 _)) fun σ H Q ⟨δ, F, g, B, w⟩ => ?_, fun op xs pos z => by subst z; cases h.1⟩
    unfold wT at w
    refine thenE hΦ B w (fun x g1 v H1 F1 ⟨c, e, q⟩ G1 B1 r1 => ?_) fun _ _ _ _ z => z
    subst e
    exact ⟨c, r1.tv.bool, q _ _ G1⟩
  | .cmp o a b, sc, ast, P, X, ok, hs, h => by
    cases ast <;> try (simp only [cT] at h; cases h; done)
    rename_i x ops ys pos
    cases ops with
    | nil => simp only [cT] at h; cases h
    | cons op ops =>
      cases ops with
      | cons _ _ => simp only [cT] at h; cases h
      | nil =>
        cases ys with
        | nil => simp only [cT] at h; cases h
        | cons y ys =>
          cases ys with
          | cons _ _ => simp only [cT] at h; cases h
          | nil =>
            simp only [cT, Bool.and_eq_true, Bool.not_eq_true'] at h
            obtain ⟨⟨⟨h1, h0⟩, h2⟩, h3⟩ := h
            have := opCB_eq h1
            subst this
            refine ⟨PT.weak (pt_cmpR (op_cmp ok.eK ok.sys (by have := ok.units; omega) o) (sE a true sc _ P X ok hs h2) (sE b true sc _ P X ok hs h3) h0) fun σ H Q ⟨δ, F, g, B, w⟩ => ?_, fun op xs pos z => nomatch z⟩
            unfold wT at w
            refine thenE hΦ B w (fun x g1 v H1 F1 w1 G1 B1 r1 => ?_) fun _ _ _ _ z => z
            refine thenE hΦ B1 w1 (fun y g2 u H2 F2 ⟨z, e, q⟩ G2 B2 r2 => ?_) fun _ _ _ _ z => z.grow G1
            exact ⟨F2, g2, x, y, z, B2.ok, r1.tv.grow B1.ok G2, r2.tv, e, z, rfl, q _ _ (G1.trans G2)⟩
  | .and2 a b, sc, ast, P, X, ok, hs, h => by
    cases ast <;> try (simp only [cT] at h; cases h; done)
    rename_i op xs pos
    cases op <;> try (simp only [cT] at h; cases h; done)
    cases xs with
    | nil => simp only [cT] at h; cases h
    | cons x xs =>
      cases xs with
      | nil => simp only [cT] at h; cases h
      | cons y rest =>
        simp only [cT, Bool.and_eq_true] at h
        have pw : PW X (.BoolOp .And (x :: y :: rest) pos) (tT P (wT Φ sub (.and2 a b))) := by
          refine PW.weak (pw_and (sT2 a sc _ P X ok hs h.1).1 ((sT2 b sc _ P X ok hs h.2).2 _ _ _ rfl)) fun σ H Q ⟨δ, F, g, B, w⟩ => ?_
          unfold wT at w
          refine thenT hΦ B w (fun c g1 H1 F1 w1 G1 B1 => ?_) fun _ _ _ _ z => z
          cases c
          · exact w1 _ _ G1
          · exact thenT hΦ B1 w1 (fun y g2 H2 F2 q G2 B2 => q _ _ (G1.trans G2)) fun _ _ _ _ z => z.grow G1
        exact ⟨pw.pt, fun op xs pos _ => pw⟩
  | .or2 a b, sc, ast, P, X, ok, hs, h => by
    cases ast <;> try (simp only [cT] at h; cases h; done)
    rename_i op xs pos
    cases op <;> try (simp only [cT] at h; cases h; done)
    cases xs with
    | nil => simp only [cT] at h; cases h
    | cons x xs =>
      cases xs with
      | nil => simp only [cT] at h; cases h
      | cons y rest =>
        simp only [cT, Bool.and_eq_true] at h
        have pw : PW X (.BoolOp .Or (x :: y :: rest) pos) (tT P (wT Φ sub (.or2 a b))) := by
          refine PW.weak (pw_or (sT2 a sc _ P X ok hs h.1).1 ((sT2 b sc _ P X ok hs h.2).2 _ _ _ rfl)) fun σ H Q ⟨δ, F, g, B, w⟩ => ?_
          unfold wT at w
          refine thenT hΦ B w (fun c g1 H1 F1 w1 G1 B1 => ?_) fun _ _ _ _ z => z
          cases c
          · exact thenT hΦ B1 w1 (fun y g2 H2 F2 q G2 B2 => q _ _ (G1.trans G2)) fun _ _ _ _ z => z.grow G1
          · exact w1 _ _ G1
        exact ⟨pw.pt, fun op xs pos _ => pw⟩
  | .one a, sc, ast, P, X, ok, hs, h => by
    cases ast <;> try (simp only [cT] at h; cases h; done)
    rename_i op xs pos
    cases xs with
    | nil => simp only [cT] at h; cases h
    | cons x xs =>
      cases xs with
      | cons _ _ => simp only [cT] at h; cases h
      | nil =>
        simp only [cT] at h
        have pw : PW X (.BoolOp op [x] pos) (tT P (wT Φ sub (.one a))) := by
          have p1 := (sT2 a sc _ P X ok hs h).1
          have k : ∀ σ H Q, tT P (wT Φ sub (.one a)) σ H Q → tT P (wT Φ sub a) σ H Q := fun σ H Q ⟨δ, F, g, B, w⟩ => ⟨δ, F, g, B, by unfold wT at w; exact w⟩
          cases op
          · exact PW.weak (pw_and1 p1) k
          · exact PW.weak (pw_or1 p1) k
        exact ⟨pw.pt, fun op xs pos _ => pw⟩
  | .not1 a, sc, ast, P, X, ok, hs, h => by
    cases ast <;> try (simp only [cT] at h; cases h; done)
    rename_i op x pos
    cases op <;> try (simp only [cT] at h; cases h; done)
    simp only [cT] at h
    refine ⟨PT.weak (pt_not (sT2 a sc _ P X ok hs h).1) fun σ H Q ⟨δ, F, g, B, w⟩ => ?_, fun op xs pos z => nomatch z⟩
    unfold wT at w
    exact thenT hΦ B w (fun c g1 H1 F1 q G1 B1 => q _ _ G1) fun _ _ _ _ z => z
theorem sEs : ∀ (es : Es) (pl : Bool) (sc : Scope) (ast : List Expr) (P : Pl) (X : Cx), XOk Γ Φ sub k N P X → X.env.scope = sc → cEs Γ N pl sc es ast = true → PA X ast (tEs P pl (wEs Φ sub es))
  | .nil, pl, sc, ast, P, X, ok, hs, h => by
    cases ast with
    | cons _ _ => simp only [cEs] at h; cases h
    | nil =>
      refine PA.weak pa_nil fun σ H Q ⟨δ, F, g, B, w⟩ => ?_
      unfold wEs at w
      exact w [] H F B.ok.refl .nil
  | .cons e r, pl, sc, ast, P, X, ok, hs, h => by
    cases ast with
    | nil => simp only [cEs] at h; cases h
    | cons x xs =>
      simp only [cEs, Bool.and_eq_true, Bool.not_eq_true'] at h
      obtain ⟨⟨h1, h2⟩, h3⟩ := h
      refine PA.weak (pa_cons (sE e pl sc _ P X ok hs h2) (sEs r pl sc _ P X ok hs h3) (star_cons h1 _ _)) fun σ H Q ⟨δ, F, g, B, w⟩ => ?_
      unfold wEs at w
      refine thenE hΦ B w (fun x g1 v H1 F1 w1 G1 B1 r1 => ?_) fun _ _ _ _ z => z
      refine thenEs hΦ B1 w1 (fun y g2 u H2 F2 q G2 B2 r2 => ?_) fun _ _ _ _ z => z.grow G1
      refine q _ _ _ (G1.trans G2) (.cons ?_ r2)
      cases pl
      · exact (show RV _ _ _ _ _ from r1).mono (G2.ext B1.ok)
      · exact (show TV _ _ _ _ _ from r1).grow B1.ok G2
end
end
end NC

set_option Elab.async false
set_option linter.all false
set_option maxRecDepth 100000
set_option maxHeartbeats 4000000
namespace NC
open PySem PySem.Spec PyProof.Rows L2
/-! ### statements -/
def vApp : Stmt → Option (Str × Str × List Expr × Bool)
  | .Expr (.Call (.Attribute (.Name x _) m apos) us [] cpos) _ => some (x, m, us, apos.endLine == cpos.line)
  | _ => none
theorem vApp_inv {s : Stmt} {x m : Str} {us : List Expr} {l : Bool} (h : vApp s = some (x, m, us, l)) : ∃ p apos cpos pos, s = .Expr (.Call (.Attribute (.Name x p) m apos) us [] cpos) pos ∧ (apos.endLine == cpos.line) = l := by
  unfold vApp at h; split at h
  · cases h; exact ⟨_, _, _, _, rfl, rfl⟩
  · cases h
def vPar : Stmt → Option (Str × Pos × Str × Pos × Expr × Expr)
  | .Assign [.Tuple [.Name x px, .Name y py] _ _] (.Tuple [u, v] _ _) _ => some (x, px, y, py, u, v)
  | _ => none
theorem vPar_inv {s : Stmt} {x y : Str} {px py : Pos} {u v : Expr} (h : vPar s = some (x, px, y, py, u, v)) : ∃ kt pt kv pv pos, s = .Assign [.Tuple [.Name x px, .Name y py] kt pt] (.Tuple [u, v] kv pv) pos := by
  unfold vPar at h; split at h
  · cases h; exact ⟨_, _, _, _, _, rfl⟩
  · cases h
def vRse : Stmt → Option Expr
  | .Raise (some e) none _ => some e
  | _ => none
theorem vRse_inv {s : Stmt} {e : Expr} (h : vRse s = some e) : ∃ p, s = .Raise (some e) none p := by
  unfold vRse at h; split at h
  · cases h; exact ⟨_, rfl⟩
  · cases h
def vTry : Stmt → Option (List Stmt × Str × Str × Stmt)
  | .Try body [.ExceptHandler (some (.Name x _)) (some n) [st] _] [] [] _ => some (body, x, n, st)
  | _ => none
theorem vTry_inv {s : Stmt} {body : List Stmt} {x n : Str} {st : Stmt} (h : vTry s = some (body, x, n, st)) : ∃ p q pos, s = .Try body [.ExceptHandler (some (.Name x p)) (some n) [st] q] [] [] pos := by
  unfold vTry at h; split at h
  · cases h; exact ⟨_, _, _, rfl⟩
  · cases h
def isNm (n : Str) : Expr → Bool
  | .Name x _ => decide (x = n)
  | _ => false
theorem isNm_inv {n : Str} {e : Expr} (h : isNm n e = true) : ∃ p, e = .Name n p := by
  cases e <;> try (cases h; done)
  simp only [isNm, decide_eq_true_eq] at h
  subst h
  exact ⟨_, rfl⟩
def compB : Expr → Bool
  | .ListComp _ _ _ _ => true
  | .SetComp _ _ _ _ => true
  | .DictComp _ _ _ _ _ => true
  | _ => false
/-- which stores are swapped -/
def swS (sc : Scope) (ts vs : List Expr) : Option (Option (List Str)) :=
  if !(ts.length == 2 || ts.length == 3) || vs.length != ts.length then some none
  else if vs.any starB then some none
  else
    let names := ts.filterMap fun
      | .Name id pos => if sc.names.lookup id == some .local && pos.line == (ts.head?.map (·.pos.line)).getD 0 then some id else none
      | _ => none
    if names.length != ts.length || names.eraseDups.length != names.length then some none
    else if vs.all (foldedForSure 8) then some none
    else if vs.all (constantsAlone 8) then none
    else some (some names)
theorem swS_ok {sc : Scope} {env : PySem.Env} {ts vs : List Expr} {kt kv : Nat} {pt pv : Pos} {r : Option (List Str)} (hs : env.scope = sc) (hk : sc.kind = .function) (h : swS sc ts vs = some r) : swappedStores [.Tuple ts kt pt] (.Tuple vs kv pv) env = pure r := by
  subst hs
  have hb : env.blockKind = .function := by unfold Env.blockKind; rw [hk]; rfl
  have st : (fun (e : Expr) => match e with | .Starred .. => true | _ => false) = starB := by funext e; cases e <;> rfl
  unfold swS at h
  unfold swappedStores
  simp only [hb, pure_bind]
  split at h
  · rename_i c
    cases h
    rw [if_pos]
    rw [Bool.or_eq_true]; exact .inl c
  · rename_i c
    rw [if_neg (by rw [Bool.or_eq_true, not_or]; exact ⟨c, by decide⟩)]
    split at h
    · rename_i c2
      cases h
      rw [if_pos]
      exact (congrArg (fun f => vs.any f = true) st).mpr c2
    · rename_i c2
      refine (if_neg ?_).trans ?_
      · intro z
        apply c2
        rw [← z]
        refine congrArg (fun f => vs.any f) ?_
        funext e
        cases e <;> rfl
      simp only at h
      split at h
      · rename_i c3
        cases h
        exact if_pos c3
      · rename_i c3
        refine (if_neg c3).trans ?_
        split at h
        · rename_i c4
          cases h
          exact if_pos c4
        · rename_i c4
          refine (if_neg c4).trans ?_
          split at h
          · cases h
          · rename_i c5
            cases h
            rw [if_neg c5]
            rfl

/-- what is wanted at the ends of a statement, from (F, H) on -/
def SD (P : Pl) (D : Ends) (F : Fz) (H : Hp) : SEnds where
  nx := fun δ' g' => ∀ σ' H' F', BI P.C P.H0 P.F0 δ' σ' H' F' g' → Ext F H F' H' → D.nx σ' H'
  rt := fun r g' => ∀ v H' F', Grow P.C P.F0 P.H0 F' H' g' → RV P.C F' H' v r → D.rt v H'
  bk := fun δ' g' => ∀ σ' H' F', BI P.C P.H0 P.F0 δ' σ' H' F' g' → Ext F H F' H' → D.bk σ' H'
  ct := fun δ' g' => ∀ σ' H' F', BI P.C P.H0 P.F0 δ' σ' H' F' g' → Ext F H F' H' → D.ct σ' H'
def SX (P : Pl) (F : Fz) (H : Hp) : XPost := fun c fs δ' g' => ∀ cls d σ' H' F', BI P.C P.H0 P.F0 δ' σ' H' F' g' → Ext F H F' H' → XR P.C F' H' cls d c fs → P.W cls d σ' H'
theorem SD.le {P : Pl} {D : Ends} {F F1 : Fz} {H H1 : Hp} (e : Ext F H F1 H1) : SLe (SD P D F H) (SD P D F1 H1) :=
  ⟨fun _ _ h σ' H' F' B x => h σ' H' F' B (e.trans x), fun _ _ h => h, fun _ _ h σ' H' F' B x => h σ' H' F' B (e.trans x), fun _ _ h σ' H' F' B x => h σ' H' F' B (e.trans x)⟩
theorem SX.le {P : Pl} {F F1 : Fz} {H H1 : Hp} (e : Ext F H F1 H1) (c : Nat) (fs : List (Str × PyData)) (δ : Env) (g : Nat) (h : SX P F H c fs δ g) : SX P F1 H1 c fs δ g := fun cls d σ' H' F' B x r => h cls d σ' H' F' B (e.trans x) r
theorem SX.ex {P : Pl} {F : Fz} {H : Hp} {δ : Env} {σ : L2.St} {g : Nat} (B : BI P.C P.H0 P.F0 δ σ H F g) (c : Nat) (fs : List (Str × PyData)) (δ' : Env) (g' : Nat) (h : atX (SX P F H) δ c fs δ' g') : EX P σ F H c fs δ' g' :=
  fun cls d H' F' G x => h cls d σ H' F' (B.grow G) (G.ext B.ok) x
abbrev SMng := Env → Nat → SEnds → XPost → Prop
def tS (P : Pl) (m : SMng) : TS := fun D σ H => ∃ δ F g, BI P.C P.H0 P.F0 δ σ H F g ∧ m δ g (SD P D F H) (SX P F H)
theorem PS.weak {X : Cx} {st : Stmt} {t t' : TS} (h : PS X st t) (k : ∀ D σ H, t' D σ H → t D σ H) : PS X st t' := ⟨fun pins s σ H D I w => h.run pins s σ H D I (k D σ H w)⟩
theorem PSs.weak {X : Cx} {st : List Stmt} {t t' : TS} (h : PSs X st t) (k : ∀ D σ H, t' D σ H → t D σ H) : PSs X st t' := ⟨fun pins s σ H D I w => h.run pins s σ H D I (k D σ H w)⟩

section
variable (Γ : Gam) (N : List Str)
/-- a new list that nobody else has -/
def freB : E → Bool
  | .lst _ => true
  | .comp _ _ _ _ => true
  | .blt .list _ => true
  | _ => false
def cmpE : E → Bool
  | .comp _ _ _ _ => true
  | _ => false
/-- is the store of this value the plain one? -/
def plnB (sc : Scope) : Expr → Expr → Bool
  | .Name _ _, v => !compB v
  | .Tuple ts _ _, .Tuple vs _ _ => decide (swS sc ts vs = some none)
  | .Tuple _ _ _, _ => true
  | _, _ => false
/-- a comprehension stored on its own line -/
def swpB (sc : Scope) : Expr → Expr → Bool
  | .Name y py, .ListComp _ _ scope pos => decide (sc.names.lookup y = some .local) && (py.line == pos.line) && !(scope.names.any fun (n, k) => n == y && (k == .local || k == .cell))
  | _, _ => false
mutual
def cS (sc : Scope) : S → Stmt → Bool
  | .asg tg e, .Assign [y] v _ => tgB N (locB sc) tg y && cE Γ N false sc e v && (plnB sc y v || (cmpE e && swpB sc y v))
  | .par i j a b, st => match vPar st with
    | some (x, px, y, py, u, v) => decide (N[i]? = some x) && decide (N[j]? = some y) && decide (i ≠ j) && decide (sc.names.lookup x = some .local) && decide (sc.names.lookup y = some .local) &&
      !starB u && !starB v && cE Γ N false sc a u && cE Γ N false sc b v && decide (swS sc [.Name x px, .Name y py] [u, v] = some (some [x, y]))
    | none => false
  | .own i e, .Assign [y] v _ => tgB N (locB sc) (.name i) y && freB e && cE Γ N false sc e v && (plnB sc y v || (cmpE e && swpB sc y v))
  | .app i e, st => match vApp st with
    | some (x, m, [u], l) => decide (m = "append") && visB sc x && decide (N[i]? = some x) && nmB x && !starB u && cE Γ N false sc e u && l
    | _ => false
  | .ins i a e, st => match vApp st with
    | some (x, m, [v, u], l) => decide (m = "insert") && visB sc x && decide (N[i]? = some x) && nmB x && !starB v && !starB u && cE Γ N true sc a v && cE Γ N false sc e u && l
    | _ => false
  | .ifs t a b, .If c x y _ => cT Γ N sc t c && cSs sc a x && cSs sc b y
  | .forS tg it b, .For y iter body [] _ => tgB N (locB sc) tg y && cIt Γ N false sc y it iter && cSs sc b body
  | .ret e, .Return (some v) _ => cE Γ N false sc e v
  | .rse c f e, st => match (vRse st).bind vCall1 with
    | some (x, u) => decide ((c, f) ∈ Γ.rsl) && decide (Γ.cnm[c]? = some x) && glB sc x && nmB x && !starB u && cE Γ N false sc e u
    | none => false
  | .tryS b c i j, st => match vTry st with
    | some (body, x, n, s1) => cSs sc b body && decide (Γ.cnm[c]? = some x) && glB sc x && nmB x && decide (N[i]? = some n) && decide (i ≠ j) && nmB n && decide (sc.names.lookup n = some .local) && (match vAsgN s1 with
      | some (y, e) => decide (N[j]? = some y) && isNm n e && decide (sc.names.lookup y = some .local)
      | none => false)
    | none => false
  | _, _ => false
def cSs (sc : Scope) : Ss → List Stmt → Bool
  | .nil, [] => true
  | .cons (.frz _) r, sts => cSs sc r sts
  | .cons s r, st :: sts => cS sc s st && cSs sc r sts
  | _, _ => false
end
end
/-- where statements stand: a frame of its own -/
structure SOk (Γ : Gam) (Φ : Calls) (sub : Nat → Nat → Bool) (k : Nat) (N : List Str) (P : Pl) (X : Cx) : Prop extends XOk Γ Φ sub k N P X where
  two : 2 ≤ k
  ex : X.ex = []
  own : PassesOwn (model X.prog X.w) X.A X.env X.xe
  stk : X.stack = X.env :: X.outer
  frm : X.env.frame = some X.env.locals
  fn : ∀ x, X.fn x = true
  kind : X.env.scope.kind = .function
end NC

set_option Elab.async false
set_option linter.all false
set_option maxRecDepth 100000
set_option maxHeartbeats 4000000
namespace NC
open PySem PySem.Spec PyProof.Rows L2
/-! ### try: .. / except x as n: y = n -/
theorem nc_adopt {X : Cx} {pins : List (Addr × Obj)} {σ : L2.St} {H : Hp} {s : Shared} {a : Addr} {o : HO} (I : Inv X pins σ H s) (na : H a = none) (nL : a ≠ X.env.locals) (nC : ∀ x c, X.env.cells.lookup x = some c → c ≠ a) (nP : ∀ p ∈ X.pn ++ pins, p.1 ≠ a) (n0 : X.s_0.heap.get? a = none)
    (new : ObjOk X.prog X.w (upd H a o) s.heap a o) : Inv X pins σ (upd H a o) s := by
  have un : ∀ {b : Addr} {u : HO}, H b = some u → upd H a o b = some u := fun {b u} e => by rw [upd_ne (ne_of_none e na)]; exact e
  refine ⟨I.ok, I.os, I.bare, ⟨I.base.keep, I.base.slot, fun b ob e n hx => ?_, I.base.there, fun b xs e => un (I.base.tups b xs e), fun b ob u e => un (I.base.frzs b ob u e), fun b ps e => ?_⟩, I.loc, I.cell, ?_, fun x c e => ?_, fun p hp => ?_, fun b u e => ?_, I.len⟩
  · have q : b ≠ a := fun z => by rw [z, n0] at e; cases e
    rw [upd_ne q]; exact I.base.free b ob e n hx
  · obtain ⟨more, e1⟩ := I.base.tbls b ps e
    exact ⟨more, un e1⟩
  · rw [upd_ne (Ne.symm nL)]; exact I.free
  · rw [upd_ne (nC x c e)]; exact I.freeC x c e
  · obtain ⟨p1, p2, p3⟩ := I.pin p hp
    exact ⟨p1, by rw [upd_ne (nP p hp)]; exact p2, p3⟩
  · by_cases hb : b = a
    · subst hb
      rw [upd_same] at e; cases e
      exact new
    · rw [upd_ne hb] at e
      exact (I.hok b u e).stay (fun _ _ _ q => q) (fun c q => un q) fun c xs q => un q
/-- what the clause wishes of an exception of the body -/
def wKeep (K : PySem.W.Frag) (c : Value) (i j : Nat) (Wout : WX) (D : Ends) : WX := fun cls d σ H =>
  ∃ b, PySem.W.exmOne K cls c = some b ∧ (b = true → ∃ Cd dx, cls = .ref Cd ∧ d = some dx ∧ ∀ a, H a = none → D.nx (((σ.set i (some (.ref a))).set j (some (.ref a))).set i none) (upd H a (cxo a Cd dx))) ∧ (b = false → Wout cls d σ H)
section
variable {X : Cx} {x n y : Str} {c : Value} {i j : Nat} {body : List Stmt} {np py pn2 sp pos pos' : Pos} {tb : WX → TS} {Wout : WX}
theorem ps_try_keep (hs : X.stack = X.env :: X.outer) (hf : X.env.frame = some X.env.locals) (hex : X.ex = []) (hN : X.N.Nodup) (hi : X.N[i]? = some n) (hln : X.env.kindOf n = some .local) (hj : X.N[j]? = some y) (hly : X.env.kindOf y = some .local) (hnm : nmB n = true) (hc : Names X x c) (tk : Takes X Wout)
    (hb : ∀ (W : WX) (pn : List (Addr × Obj)) (xe : Value → Shared → Prop), Takes (X.tr pn xe) W → PassesOwn (model X.prog X.w) X.A X.env xe → PSs (X.tr pn xe) body (tb W)) :
    PS X (.Try body [.ExceptHandler (some (.Name x np)) (some n) [.Assign [.Name y py] (.Name n pn2) sp] pos'] [] [] pos) (fun D σ H => tb (wKeep X.K c i j Wout D) D σ H) := by
  refine ⟨fun pins s σ H D I h => ?_⟩
  have ok := I.ok
  have hfr : X.A.frames = some (X.env :: X.outer) := by rw [ok.frames, hs]
  obtain ⟨nd1, nd2, _⟩ := nm_of hnm
  refine wpAny_Try_except ?_
  refine wpAny_mono ((hb (wKeep X.K c i j Wout D) (X.pn ++ pins) (fun ev s₁ => wpAny (model X.prog X.w) X.A (noteFrame ev X.env) (fun _ s₂ => wpAny (model X.prog X.w) X.A (setFlight ev none) (fun _ s₃ =>
    wpAny (model X.prog X.w) X.A (handleBy ev X.env [.ExceptHandler (some (.Name x np)) (some n) [.Assign [.Name y py] (.Name n pn2) sp] pos']) (SP X pins D) X.xe s₃) X.xe s₂) X.xe s₁) (fun u s' xx => ?_) PassesOwn.looking).run [] s σ H D (I.toTry _) h) (fun f s1 hsp => ?_) (fun _ _ he => he)
  · obtain ⟨a, B, sI, pins', σ', H', cls, d, rfl, J0, nb, up, sky, na, os, ag, b, hb1, hyes, hno⟩ := xx
    have J : Inv X pins σ' H' sI := J0.ofTry ok
    have sky' : Sky B (X.env :: X.outer) a (Zc cls d) X.env.locals s'.heap := by rw [← hs]; exact sky
    show wpAny (model X.prog X.w) X.A (noteFrame (.ref a) X.env) _ _ _
    refine Sky.land Zc.steady hfr hf sky' fun h3 fl3 up3 => ?_
    have J3 : Inv X pins σ' H' { s' with heap := h3 } := J.landed nb fl3.1 (up.trans up3) os ag
    obtain ⟨oe3, vs3, he3, hz3, hd3⟩ := fl3.there
    have nfr : a ∉ frs (X.env :: X.outer) := fun hm => by
      obtain ⟨_, o', e', hnf⟩ := fl3.2.2.1.mem hm
      rw [he3] at e'; cases e'
      exact hnf _ hd3
    have nL : a ≠ X.env.locals := fun z => nfr (List.mem_filterMap.mpr ⟨X.env, List.mem_cons_self, by rw [hf, z]⟩)
    have nF : a ∉ X.fs := fun hm => by
      obtain ⟨ev, hev, q⟩ := List.mem_filterMap.mp hm
      exact nfr (List.mem_filterMap.mpr ⟨ev, List.mem_cons_of_mem _ hev, q⟩)
    have nI : sI.heap.get? a = none := by
      cases e : sI.heap.get? a with
      | none => rfl
      | some o =>
        have z := nb a o e (by rw [hs]; exact nfr)
        rw [fl3.2.1] at z; cases z
    have n0 : X.s_0.heap.get? a = none := by
      cases e : X.s_0.heap.get? a with
      | none => rfl
      | some o =>
        obtain ⟨o', z⟩ := J.base.there a o e (by rw [hex]; simp)
        rw [nI] at z; cases z
    have nP : ∀ p ∈ X.pn ++ pins, p.1 ≠ a := fun p hp z => by
      have q := (J.pin p hp).1
      rw [z, nI] at q; cases q
    have nC : ∀ x c, X.env.cells.lookup x = some c → c ≠ a := fun x c e z => by
      obtain ⟨v, o, q, _⟩ := J.cell x c e
      rw [z, nI] at q; cases q
    have S3 := J3.suite he3 hd3 na nL nF
    refine wpAny_handleBy_cons (codeAny_handlers_test ?_) (by intro q; cases q)
    have lookT : PySem.W.Looks (model X.prog X.w) h3 (typeOf (.ref a)) cls := fun A Q E s k q => wpAny_typeOf_ref (k _ _ he3) (by rw [hz3.1]; exact q)
    have lookM := PySem.W.exm_one (M := model X.prog X.w) (J3.kIn) lookT hb1
    have test : ∀ {Q : Value → Shared → Prop} {E : Value → Shared → Prop}, Q c { s' with heap := h3 } → wpAny (model X.prog X.w) (X.A.mark (some (.ref a))) (eval (.Name x np) X.env) Q E { s' with heap := h3 } := fun {Q E} q => by
      obtain ⟨hg, hdbg, hm | ⟨hm, hv, hnn⟩⟩ := hc
      · exact ld_glob S3 hg hm q hdbg
      · exact ld_blt S3 hg hm hv q hnn hdbg
    refine test (lookM.here ?_)
    cases b with
    | true =>
      obtain ⟨Cd, dx, rfl, rfl, hy⟩ := hyes rfl
      refine codeAny_handlers_suite_as ?_
      refine HandSPX.lands_againZ fl3 fun h4 fl4 up4 => ?_
      have J4 : Inv X pins σ' H' { s' with heap := h4 } := J.landed nb fl4.1 ((up.trans up3).trans up4) os ag
      obtain ⟨oe4, vs4, he4, hz4, hd4⟩ := fl4.there
      have S4 := J4.suite he4 hd4 na nL nF
      refine store_ok (X := X.suite a ((a, oe4) :: (X.pn ++ pins))) (v := .ref a) S4 hN hi (.inl hln) rfl (fun s5 S5 => ?_) (.inr hln)
      have hsu : PSs (X.suite a ((a, oe4) :: (X.pn ++ pins))) [.Assign [.Name y py] (.Name n pn2) sp] (tAsg (tVar i) (gName j)) :=
        pss_one (ps_set hN hj (.inl hly) (pe_var (i := i) hi (.inl hln) nd1 nd2) rfl (.inr hly))
      have hli : i < σ'.length := by rw [J.len]; exact (List.getElem?_eq_some_iff.mp hi).1
      refine wpAny_mono (hsu.run [] s5 _ H' { nx := fun σ6 H6 => σ6 = (σ'.set i (some (.ref a))).set j (some (.ref a)) ∧ H6 = H', rt := fun _ _ => False } S5 ⟨.ref a, List.getElem?_set_self hli, rfl, rfl⟩) (fun f s6 hsp => ?_) (fun _ _ z => False.elim z)
      cases f with
      | next =>
        obtain ⟨σ6, H6, S6, rfl, rfl⟩ := hsp
        have P6 := S6.pin (a, oe4) (List.mem_append_left _ List.mem_cons_self)
        have J6 : Inv X (pins ++ [(a, oe4)]) ((σ'.set i (some (.ref a))).set j (some (.ref a))) H6 s6 := (S6.unsuite ok).pins_of fun p hp => by
          rcases List.mem_append.mp hp with hp | hp
          · exact (S6.unsuite ok).pin p (List.mem_append_right _ hp)
          · obtain rfl : p = (a, oe4) := by simpa using hp
            exact P6
        refine gone_ok J6 hN hi hln fun s7 J7 => ?_
        have Q7 := J7.pin (a, oe4) (List.mem_append_right _ (List.mem_append_right _ (List.mem_singleton.mpr rfl)))
        refine ⟨_, upd H6 a (cxo a Cd dx), nc_adopt J7.unpinned na nL nC nP n0 (cxo_ok Q7.1 hz4.1 hz4.2 hd4), hy a na⟩
      | brk => obtain ⟨_, _, _, z⟩ := hsp; exact z.elim
      | cont => obtain ⟨_, _, _, z⟩ := hsp; exact z.elim
      | ret u => obtain ⟨_, _, _, _, _, z⟩ := hsp; exact z.elim
    | false =>
      show wpAny _ X.A (handleBy (.ref a) X.env []) _ _ _
      refine wpAny_handleBy_nil ?_
      obtain ⟨k1, k2, k3, oe, vs, T, oT, ts', he, hz, hd, h1, hr⟩ := id fl3
      unfold PySem.passOn
      refine wpAny_bind (wpAny_field he hd h1 ?_)
      rw [if_neg (show ¬ ((Value.ref T == Value.none) = true) from by simp)]
      have fin : wpAny (model X.prog X.w) X.A (setFlight (.ref a) X.env.frame) (fun _ s4 => wpAny (model X.prog X.w) X.A (throw (.ref a) : Sem Flow) (SP X pins D) X.xe s4) X.xe { s' with heap := h3 } := by
        rw [hf]
        refine HandSPX.setFlight_upZ fl3 fun h4 hh4 up4 => wpAny_throw (tk _ _ ?_)
        exact ⟨a, B, sI, pins, σ', H', cls, d, rfl, J, nb, (up.trans up3).trans up4, .inr (.inr (by rw [hs]; exact hh4)), na, os, ag, hno rfl⟩
      first
        | exact wpAny_bind (wpAny_pure (wpAny_bind fin))
        | exact wpAny_bind fin
  · cases f with
    | next =>
      obtain ⟨σ', H', J', q⟩ := hsp
      exact wpAny_execs_nil ⟨σ', H', J'.ofTry ok, q⟩
    | brk => obtain ⟨σ', H', J', q⟩ := hsp; exact ⟨σ', H', J'.ofTry ok, q⟩
    | cont => obtain ⟨σ', H', J', q⟩ := hsp; exact ⟨σ', H', J'.ofTry ok, q⟩
    | ret u => obtain ⟨v, σ', H', J', r, q⟩ := hsp; exact ⟨v, σ', H', J'.ofTry ok, r, q⟩
end
end NC

set_option Elab.async false
set_option linter.all false
set_option maxRecDepth 100000
set_option maxHeartbeats 4000000
namespace NC
open PySem PySem.Spec PyProof.Rows L2
theorem swaps_no {v : Expr} (h : compB v = false) (t : Option Expr) (l : Nat) (env : PySem.Env) : swapsWith v t l env = pure false := by
  cases v <;> first | rfl | cases h
theorem swaps_tup {v : Expr} {ts : List Expr} {kt : Nat} {pt : Pos} (l : Nat) (env : PySem.Env) : swapsWith v (some (.Tuple ts kt pt)) l env = pure false := by
  cases v <;> rfl
theorem pln_ok {sc : Scope} {t v : Expr} {env : PySem.Env} {l : Nat} (hs : env.scope = sc) (hk : sc.kind = .function) (h : plnB sc t v = true) :
    swapsWithSole [t] v l env = pure false ∧ swappedStores [t] v env = pure none ∧ (assignEach [t] env).map (·.2) = [assign t env] := by
  cases t with
  | Name x p =>
    simp only [plnB, Bool.not_eq_true'] at h
    exact ⟨by unfold swapsWithSole; exact swaps_no h _ _ _, by cases v <;> rfl, rfl⟩
  | Tuple ts kt pt =>
    refine ⟨by unfold swapsWithSole; exact swaps_tup _ _, ?_, rfl⟩
    cases v with
    | Tuple vs kv pv =>
      simp only [plnB, decide_eq_true_eq] at h
      exact swS_ok hs hk h
    | _ => rfl
  | _ => simp [plnB] at h
/-- a new list: its reading -/
def wF (Φ : Calls) (sub : Nat → Nat → Bool) (e : E) : Mng (List PyData) := fun δ g A R => wE Φ sub e δ g (fun v g' => ∃ ds, v = .d (.list ds) ∧ A ds g') R
def rLi (C : Ctx) : List V → Hp → VK → Prop := fun vs H Q => ∃ F g ds z, FOk C F H g ∧ TVs C F H vs ds ∧ bltS .list ds = some (.list z) ∧ ∀ p xs, H p = none → RPs C.K F (upd H p (.lst xs)) xs z → Q (.ref p) (upd H p (.lst xs))
theorem call_li {X : Cx} {C : Ctx} (hK : X.K = C.K) : CallR X (.type "list") (rLi C) := by
  intro pins s σ H xs us Q I rx ⟨F, g, ds, z, ok, t, e, q⟩
  unfold bltS at e
  split at e <;> try (first | (cases e; done) | (rename_i hh _; cases hh; done) | (rename_i hh; cases hh; done))
  · cases e
    obtain ⟨v, rfl, tt⟩ := pd_one t
    obtain ⟨a, vs, rfl, h1, r1⟩ := tt.tup
    exact call_list_of pins s σ H _ us Q I rx ⟨a, vs, rfl, .inr (by rw [hK]; exact h1), fun p hp => q p vs hp (r1.mono ((ok.alloc _ hp).ext ok))⟩
  · cases e
    obtain ⟨v, rfl, tt⟩ := pd_one t
    obtain ⟨a, vs, rfl, h1, r1⟩ := tt.list
    exact call_list_of pins s σ H _ us Q I rx ⟨a, vs, rfl, .inl (SqL.of h1), fun p hp => q p vs hp (r1.mono ((ok.alloc _ hp).ext ok))⟩
section
variable {Γ : Gam} {Φ : Calls} {sub : Nat → Nat → Bool} {k : Nat} {N : List Str} (hΦ : CMono Φ)
include hΦ
theorem sC {elt : E} {tg : Tg} {it : It} {t : TO} {P : Pl} {X : Cx} {ast : Expr} {pl : Bool} (ok : XOk Γ Φ sub k N P X) (h : cE Γ N pl X.env.scope (.comp elt tg it t) ast = true) : PE X ast (tF P (wC Φ sub elt tg it t)) := by
  cases ast <;> try (simp only [cE] at h; cases h; done)
  rename_i el gens scope pos
  match gens, h with
  | [⟨tgt, iter, ifs, 0⟩], h =>
    simp only [cE, Bool.and_eq_true] at h
    obtain ⟨⟨⟨⟨h1, h2⟩, h3⟩, h4⟩, h5⟩ := h
    have pI := sIt (sub := sub) hΦ it true _ tgt iter P X ok rfl h3
    exact comp_pe (elt := elt) (t := t) hΦ ok h1 h2 pI.1 pI.2 (fun s H C cl fp => sTO hΦ t _ ifs P.calm _ (ok.blk s H scope C cl fp) rfl h4) (fun s H C cl fp => sE hΦ elt false _ el P.calm _ (ok.blk s H scope C cl fp) rfl h5)
theorem sCs {elt : E} {tg : Tg} {it : It} {t : TO} {P : Pl} {X : Cx} {y : Str} {py : Pos} {i : Nat} {ast : Expr} {spos : Pos} {pl : Bool} (ok : XOk Γ Φ sub k N P X) (hk : X.env.scope.kind = .function) (hi : N[i]? = some y) (h : cE Γ N pl X.env.scope (.comp elt tg it t) ast = true) (hsw : swpB X.env.scope (.Name y py) ast = true) :
    PS X (.Assign [.Name y py] ast spos) (tAsg (tF P (wC Φ sub elt tg it t)) (gName i)) := by
  cases ast <;> try (simp only [cE] at h; cases h; done)
  rename_i el gens scope pos
  match gens, h with
  | [⟨tgt, iter, ifs, 0⟩], h =>
    simp only [cE, Bool.and_eq_true] at h
    obtain ⟨⟨⟨⟨h1, h2⟩, h3⟩, h4⟩, h5⟩ := h
    simp only [swpB, Bool.and_eq_true, decide_eq_true_eq, Bool.not_eq_true'] at hsw
    obtain ⟨⟨s1, s2⟩, s3⟩ := hsw
    have pI := sIt (sub := sub) hΦ it true _ tgt iter P X ok rfl h3
    exact PS.weak (ps_setLc (own := ownOf N tg.slots) ok.calm (by rw [ok.eN]; exact ok.nd) (by rw [ok.eN]; exact hi) s1 (sw_true hk s1 s2 s3) pI.1 (by rw [ok.eN]; exact blkOk_by h1)
      (fun s H C cl fp => sTg (P := P) (X := X.blk s H scope (compEnvC scope cl C X.env) fp) ok.eK ok.eN ok.nd ok.calm (blkT_ok (X := X)) tg tgt h2)
      (fun s H C cl fp => sTO (sub := sub) hΦ t _ ifs P.calm _ (ok.blk s H scope C cl fp) rfl h4) (fun s H C cl fp => sE (sub := sub) hΦ elt false _ el P.calm _ (ok.blk s H scope C cl fp) rfl h5) pI.2) fun D σ H w => comp_rd hΦ w
theorem sFr {P : Pl} {X : Cx} : ∀ {e : E} {ast : Expr}, freB e = true → XOk Γ Φ sub k N P X → cE Γ N false X.env.scope e ast = true → PE X ast (tF P (wF Φ sub e))
  | .lst es, ast, _, ok, h => by
    cases ast <;> try (simp only [cE] at h; cases h; done)
    simp only [cE] at h
    refine PE.weak (pe_lst (sEs (sub := sub) hΦ es false _ _ P X ok rfl h)) fun σ H Q ⟨δ, F, g, B, w⟩ => ?_
    unfold wF wE at w
    refine thenEs hΦ B w (fun x g1 v H1 F1 ⟨xs, e1, e2, ds, e3, q⟩ G B1 r => ?_) fun _ _ _ _ z => z
    cases e3
    have rp := RVs.all r e1
    refine ⟨by rw [rp.length]; exact le_line e2, fun p hp => ?_⟩
    have G2 := B1.ok.alloc (.lst v) hp
    have hpn : H p = none := by
      cases e : H p with
      | none => rfl
      | some o => rw [G.keep p o e (B1.ok.sta.off hp)] at hp; cases hp
    exact q p v _ _ (G.trans G2) hpn upd_same (fun z => B1.ok.trk p z hp) (rp.mono (G2.ext B1.ok))
  | .comp elt tg it t, ast, _, ok, h => by
    refine PE.weak (sC (sub := sub) hΦ ok h) fun σ H Q ⟨δ, F, g, B, w⟩ => ⟨δ, F, g, B, ?_⟩
    refine wC_mono hΦ (fun ys g2 ⟨ds, e, q⟩ => ?_) (wE_comp.mp w)
    cases e
    exact q
  | .blt .list es, ast, _, ok, h => by
    cases ast <;> try (simp only [cE] at h; cases h; done)
    rename_i fe as kws pos
    cases fe <;> try (simp only [cE] at h; cases h; done)
    rename_i x p
    cases as with
    | nil => simp only [cE] at h; cases h
    | cons y ys =>
      cases kws with
      | cons _ _ => simp only [cE] at h; cases h
      | nil =>
        simp only [cE, Bool.and_eq_true, decide_eq_true_eq] at h
        obtain ⟨⟨h0, h1⟩, h3⟩ := h
        subst h0
        have st : starB y = false ∧ ys.any starB = false := cEs_star h3
        have mn : X.mg (bltN .list) = none := ok.glob.blt _ (by simp [bltN, bltNames])
        refine PE.weak (pe_callTy (call_li ok.eK) (gl_of h1) mn (by decide +kernel) (sEs (sub := sub) hΦ es true _ _ P X ok rfl h3) (by decide) (by decide) (star_cons st.1 _ _) (star_any st.2 _ _)) fun σ H Q ⟨δ, F, g, B, w⟩ => ?_
        unfold wF wE at w
        refine thenEs hΦ B w (fun vs g1 us H1 F1 ⟨z, e, ds, ez, q⟩ G1 B1 r1 => ?_) fun _ _ _ _ z => z
        cases ez
        refine ⟨F1, g1, vs, ds, B1.ok, r1, e, fun p xs hp rs => ?_⟩
        have hpn : H p = none := by
          cases e : H p with
          | none => rfl
          | some o => rw [G1.keep p o e (B1.ok.sta.off hp)] at hp; cases hp
        exact q p xs _ _ (G1.trans (B1.ok.alloc _ hp)) hpn upd_same (fun z => B1.ok.trk p z hp) rs
/-- name = a new list -/
theorem own_rd {P : Pl} {i : Nat} {m : Mng (List PyData)} {D : Ends} {σ : L2.St} {H : Hp} {δ : Env} {F : Fz} {g : Nat} (mono : ∀ A A' R R', (∀ x g1, A x g1 → A' x g1) → (∀ c fs δ' g', R c fs δ' g' → R' c fs δ' g') → m δ g A R → m δ g A' R') (B : BI P.C P.H0 P.F0 δ σ H F g)
    (w : m δ g (fun ds g' => (SD P D F H).nx (δ.set i (.ow ds)) g') (atX (SX P F H) δ)) : tAsg (tF P m) (gName i) D σ H := by
  refine ⟨δ, F, g, B, mono _ _ _ _ (fun ds g1 q p xs H1 F1 G hn hD hF rs => ?_) (fun c fs δ' g' z => SX.ex B c fs δ' g' z) w⟩
  have B1 := B.grow G
  have hS : ¬ P.C.S p := B.ok.sta.off hn
  have h0 : P.H0 p = none := by
    cases e : P.H0 p with
    | none => rfl
    | some o => rw [B.gr.keep p o e hS] at hn; cases hn
  by_cases hi : i < σ.length
  · refine q _ _ _ (B1.own hi hD rs hF hS h0 fun j es hj e z => ?_) (G.ext B.ok)
    obtain ⟨a, vs, e1, e2, _⟩ := B.ow j es e
    rw [e1] at z; cases z
    rw [e2] at hn; cases hn
  · have e1 : σ.set i (some (.ref p)) = σ := List.set_eq_of_length_le (by omega)
    have e2 : δ.set i (.ow ds) = δ := List.set_eq_of_length_le (by rw [B.len]; omega)
    show D.nx (σ.set i (some (.ref p))) H1
    have q := q σ H1 F1
    rw [e2] at q
    rw [e1]
    exact q B1 (G.ext B.ok)
/-- name = a new list, frozen at once -/
theorem asg_rd {P : Pl} {i : Nat} {m : Mng (List PyData)} {D : Ends} {σ : L2.St} {H : Hp} {δ : Env} {F : Fz} {g : Nat} (mono : ∀ A A' R R', (∀ x g1, A x g1 → A' x g1) → (∀ c fs δ' g', R c fs δ' g' → R' c fs δ' g') → m δ g A R → m δ g A' R') (B : BI P.C P.H0 P.F0 δ σ H F g)
    (w : m δ g (fun ds g' => (SD P D F H).nx (δ.set i (.sh (.d (.list ds)))) g') (atX (SX P F H) δ)) : tAsg (tF P m) (gName i) D σ H := by
  refine ⟨δ, F, g, B, mono _ _ _ _ (fun ds g1 q p xs H1 F1 G hn hD hF rs => ?_) (fun c fs δ' g' z => SX.ex B c fs δ' g' z) w⟩
  obtain ⟨G2, ex⟩ := G.frzD B.ok hn hD
  exact q _ _ _ ((B.grow G2).store' (show RP _ _ _ _ _ from .lst (.inr rfl) hD (rs.mono ex))) (G2.ext B.ok)
end
end NC

set_option Elab.async false
set_option linter.all false
set_option maxRecDepth 100000
set_option maxHeartbeats 4000000
namespace NC
open PySem PySem.Spec PyProof.Rows L2
theorem frz_inv {i : Nat} {δ δ' : Env} (h : frzS i δ = some δ') : ∃ ds, δ[i]? = some (.ow ds) ∧ δ' = δ.set i (.sh (.d (.list ds))) := by
  cases e : δ[i]? with
  | none => simp [frzS, e] at h
  | some x =>
    cases x with
    | un => simp [frzS, e] at h
    | sh v => simp [frzS, e] at h
    | ow ds =>
      simp only [frzS, e, Option.some.injEq] at h
      exact ⟨ds, rfl, h.symm⟩
theorem few2 {u v : Expr} (h : starB u = false) (h' : starB v = false) {env : PySem.Env} {cpos : Pos} : ((backTo cpos (starEach [u, v] env)).all (fun x => !x.1) && (backToKw cpos (keywordEach [] env)).all (fun x => x.1.isSome)
      && decide ([u, v].length + ([] : List Keyword).length + (if ([] : List Keyword).isEmpty then 0 else 1) < 30)) = true := by
  rw [star_cons h, star_cons h']; rfl
theorem loc_fn {Γ : Gam} {Φ : Calls} {sub : Nat → Nat → Bool} {k : Nat} {N : List Str} {P : Pl} {X : Cx} (ok : SOk Γ Φ sub k N P X) (x : Str) (h : locB X.env.scope x = true) : Loc X.env.scope x ∧ (X.fn x = true ∨ X.env.scope.names.lookup x = some .local) := ⟨loc_of h, .inl (ok.fn x)⟩
section
variable {Γ : Gam} {Φ : Calls} {sub : Nat → Nat → Bool} {k : Nat} {N : List Str} (hΦ : CMono Φ)
include hΦ
theorem sAsg {tg : Tg} {e : E} {y v : Expr} {P : Pl} {X : Cx} {pos : Pos} (ok : SOk Γ Φ sub k N P X) (h1 : tgB N (locB X.env.scope) tg y = true) (h2 : cE Γ N false X.env.scope e v = true) (h3 : plnB X.env.scope y v = true) : PS X (.Assign [y] v pos) (tS P (wS Φ sub (.asg tg e))) := by
  obtain ⟨p1, p2, p3⟩ := pln_ok (l := pos.line) (env := X.env) rfl ok.kind h3
  refine PS.weak (ps_asg (sE (sub := sub) hΦ e false _ v P X ok.toXOk rfl h2) (sTg (P := P) ok.eK ok.eN ok.nd ok.calm (loc_fn ok) tg y h1) p1 p2 p3) fun D σ H ⟨δ, F, g, B, w⟩ => ?_
  unfold wS at w
  exact thenE hΦ B w (fun x g1 u H1 F1 ⟨δ', e, q⟩ G B1 r => ⟨δ, F1, g1, x, δ', B1, r, e, fun σ' B' _ => q σ' H1 F1 B' (G.ext B.ok)⟩) (SX.ex B)
theorem sOwn {i : Nat} {e : E} {y v : Expr} {P : Pl} {X : Cx} {pos : Pos} (ok : SOk Γ Φ sub k N P X) (h1 : tgB N (locB X.env.scope) (.name i) y = true) (hf : freB e = true) (h2 : cE Γ N false X.env.scope e v = true) (h3 : plnB X.env.scope y v = true) : PS X (.Assign [y] v pos) (tS P (wS Φ sub (.own i e))) := by
  cases y <;> try (simp only [tgB] at h1; cases h1; done)
  rename_i x px
  simp only [tgB, Bool.and_eq_true, decide_eq_true_eq] at h1
  obtain ⟨p1, p2, p3⟩ := pln_ok (l := pos.line) (env := X.env) rfl ok.kind h3
  refine PS.weak (ps_set (i := i) (by rw [ok.eN]; exact ok.nd) (by rw [ok.eN]; exact h1.2) (loc_of h1.1) (sFr hΦ hf ok.toXOk h2) p1 (.inl (ok.fn _))) fun D σ H ⟨δ, F, g, B, w⟩ => ?_
  unfold wS at w
  exact own_rd hΦ (fun A A' R R' a r w => wE_mono hΦ e _ _ _ _ _ _ (fun x g1 ⟨ds, e, q⟩ => ⟨ds, e, a _ _ q⟩) r w) B w
mutual
theorem sS : ∀ (s : S) (sc : Scope) (ast : Stmt) (P : Pl) (X : Cx), SOk Γ Φ sub k N P X → X.env.scope = sc → cS Γ N sc s ast = true → PS X ast (tS P (wS Φ sub s))
  | .asg tg e, sc, ast, P, X, ok, hs, h => by
    subst hs
    cases ast <;> try (simp only [cS] at h; cases h; done)
    rename_i ys v pos
    match ys, h with
    | [y], h =>
      simp only [cS, Bool.and_eq_true, Bool.or_eq_true] at h
      obtain ⟨⟨h1, h2⟩, h3 | ⟨h3, h4⟩⟩ := h
      · exact sAsg hΦ ok h1 h2 h3
      · cases e <;> try (cases h3; done)
        cases y <;> try (simp only [swpB] at h4; cases h4; done)
        rename_i y py
        cases tg <;> try (simp only [tgB] at h1; cases h1; done)
        simp only [tgB, Bool.and_eq_true, decide_eq_true_eq] at h1
        refine PS.weak (sCs (sub := sub) (P := P) hΦ ok.toXOk ok.kind h1.2 h2 h4) fun D σ H ⟨δ, F, g, B, w⟩ => ?_
        unfold wS at w
        refine asg_rd hΦ (fun A A' R R' a r w => wC_mono2 hΦ a r w) B (wC_mono hΦ (fun ys g2 ⟨δ', e, q⟩ => ?_) (wE_comp.mp w))
        cases e
        exact q
  | .par i j a b, sc, ast, P, X, ok, hs, h => by
    subst hs
    cases hv : vPar ast with
    | none => simp only [cS, hv] at h; cases h
    | some t =>
      obtain ⟨x, px, y, py, u, v⟩ := t
      obtain ⟨kt, pt, kv, pv, pos, rfl⟩ := vPar_inv hv
      simp only [cS, hv, Bool.and_eq_true, decide_eq_true_eq, Bool.not_eq_true'] at h
      obtain ⟨⟨⟨⟨⟨⟨⟨⟨⟨h1, h2⟩, h3⟩, h4⟩, h5⟩, h6⟩, h7⟩, h8⟩, h9⟩, h10⟩ := h
      refine PS.weak (ps_par (i := i) (j := j) ok.calm (by rw [ok.eN]; exact ok.nd) (by rw [ok.eN]; exact h1) (by rw [ok.eN]; exact h2) h3 h4 h5 (pa_cons (sE (sub := sub) hΦ a false _ u P X ok.toXOk rfl h8) (pa_cons (sE (sub := sub) hΦ b false _ v P X ok.toXOk rfl h9) pa_nil (star_cons h7 _ _)) (star_cons h6 _ _)) (swS_ok rfl ok.kind h10) (by unfold swapsWithSole; exact swaps_tup _ _)) fun D σ H ⟨δ, F, g, B, w⟩ => ?_
      unfold wS at w
      refine thenE hΦ B w (fun x1 g1 u1 H1 F1 w1 G B1 r1 => ?_) (SX.ex B)
      refine thenE hΦ B1 w1 (fun y1 g2 v1 H2 F2 q G2 B2 r2 => ?_) (fun c fs δ' g' z => (SX.ex B c fs δ' g' z).grow G)
      refine ⟨u1, v1, rfl, q _ _ _ ((B2.store' (RV.mono (G2.ext B1.ok) r1)).store' r2) ((G.trans G2).ext B.ok)⟩
  | .own i e, sc, ast, P, X, ok, hs, h => by
    subst hs
    cases ast <;> try (simp only [cS] at h; cases h; done)
    rename_i ys v pos
    match ys, h with
    | [y], h =>
      simp only [cS, Bool.and_eq_true, Bool.or_eq_true] at h
      obtain ⟨⟨⟨h1, hf⟩, h2⟩, h3 | ⟨h3, h4⟩⟩ := h
      · exact sOwn hΦ ok h1 hf h2 h3
      · cases e <;> try (cases h3; done)
        cases y <;> try (simp only [swpB] at h4; cases h4; done)
        rename_i y py
        simp only [tgB, Bool.and_eq_true, decide_eq_true_eq] at h1
        refine PS.weak (sCs (sub := sub) (P := P) hΦ ok.toXOk ok.kind h1.2 h2 h4) fun D σ H ⟨δ, F, g, B, w⟩ => ?_
        unfold wS at w
        refine own_rd hΦ (fun A A' R R' a r w => wC_mono2 hΦ a r w) B (wC_mono hΦ (fun ys g2 ⟨ds, e, q⟩ => ?_) (wE_comp.mp w))
        cases e
        exact q
  | .app i e, sc, ast, P, X, ok, hs, h => by
    subst hs
    unfold cS at h
    split at h
    case h_2 => cases h
    case h_1 =>
      rename_i x m u l hv
      obtain ⟨px, apos, cpos, pos, rfl, hl⟩ := vApp_inv hv
      simp only [Bool.and_eq_true, decide_eq_true_eq, Bool.not_eq_true'] at h
      obtain ⟨⟨⟨⟨⟨⟨rfl, h1⟩, h2⟩, h3⟩, h4⟩, h5⟩, h6⟩ := h
      subst h6
      have h6 := hl
      obtain ⟨n1, n2, n3⟩ := nm_of h3
      refine PS.weak (ps_expr (pe_bm F.plainAttrs_list F.slot_list_append F.type_list_append mt_append (pe_var (i := i) (by rw [ok.eN]; exact h2) (vis_of h1) n1 n2) (pa_cons (sE (sub := sub) hΦ e false _ u P X ok.toXOk rfl h5) pa_nil (star_cons h4 _ _)) rfl (few1 h4) h6 (star_cons h4 _ _) rfl) rfl) fun D σ H ⟨δ, F, g, B, w⟩ => ?_
      unfold wS at w
      obtain ⟨ds, ed, w⟩ := w
      obtain ⟨a, xs, e1, e2, e3, e4, e5, e6⟩ := B.ow i ds ed
      refine ⟨_, e1, .inl ⟨rfl, xs, SqL.of e2⟩, thenE hΦ B w (fun v1 g1 u1 H1 F1 ⟨z, ez, hl, q⟩ G B1 r => ?_) (SX.ex B)⟩
      subst ez
      obtain ⟨a', xs', f1, f2, f3, f4, f5, f6⟩ := B1.ow i ds ed
      rw [e1] at f1; cases f1
      obtain ⟨B2, ex⟩ := B1.write (es := ds ++ [z]) ed e1 f2 f4 f5 f6 (f3.append (.cons r .nil))
      exact ⟨a, xs', u1, rfl, rfl, f2, by rw [f3.length]; exact hl, q _ _ _ B2 ((G.ext B.ok).trans ex)⟩
  | .ins i a e, sc, ast, P, X, ok, hs, h => by
    subst hs
    unfold cS at h
    split at h
    case h_2 => cases h
    case h_1 =>
      rename_i x m v u l hv
      obtain ⟨px, apos, cpos, pos, rfl, hl⟩ := vApp_inv hv
      simp only [Bool.and_eq_true, decide_eq_true_eq, Bool.not_eq_true'] at h
      obtain ⟨⟨⟨⟨⟨⟨⟨⟨rfl, h1⟩, h2⟩, h3⟩, h4⟩, h4'⟩, h5⟩, h5'⟩, h6⟩ := h
      subst h6
      have h6 := hl
      obtain ⟨n1, n2, n3⟩ := nm_of h3
      refine PS.weak (ps_expr (pe_bm F.plainAttrs_list F.slot_list_insert F.type_list_insert mt_insert (pe_var (i := i) (by rw [ok.eN]; exact h2) (vis_of h1) n1 n2) (pa_cons (sE (sub := sub) hΦ a true _ v P X ok.toXOk rfl h5) (pa_cons (sE (sub := sub) hΦ e false _ u P X ok.toXOk rfl h5') pa_nil (star_cons h4' _ _)) (star_cons h4 _ _)) rfl (few2 h4 h4') h6 (star_cons h4 _ _) (star_any (by rw [List.any_cons, h4']; rfl) _ _)) rfl) fun D σ H ⟨δ, F, g, B, w⟩ => ?_
      unfold wS at w
      obtain ⟨ds, ed, w⟩ := w
      obtain ⟨b, xs, e1, e2, e3, e4, e5, e6⟩ := B.ow i ds ed
      refine ⟨_, e1, .inl ⟨rfl, xs, SqL.of e2⟩, thenE hΦ B w (fun v0 g0 u0 H0 F0 w0 G0 B0 r0 => ?_) (SX.ex B)⟩
      refine thenE hΦ B0 w0 (fun v1 g1 u1 H1 F1 ⟨n, z, en, ez, hn0, hn1, hl, q⟩ G B1 r => ?_) (fun c fs δ' g' z => (SX.ex B c fs δ' g' z).grow G0)
      subst ez
      subst en
      obtain ⟨a', xs', f1, f2, f3, f4, f5, f6⟩ := B1.ow i ds ed
      rw [e1] at f1; cases f1
      have hu := r0.tv.int
      subst hu
      obtain ⟨B2, ex⟩ := B1.write (es := ds.take n.toNat ++ [z] ++ ds.drop n.toNat) ed e1 f2 f4 f5 f6 (((f3.take n.toNat).append (.cons r .nil)).append (f3.drop n.toNat))
      refine ⟨b, xs', n, u1, rfl, rfl, f2, ?_, hn0, by omega, ?_⟩
      · rw [f3.length, sizeLine_eq]; omega
      · rw [List.append_assoc, List.singleton_append] at B2
        exact q _ _ _ B2 (((G0.trans G).ext B.ok).trans ex)
  | .ifs t a b, sc, ast, P, X, ok, hs, h => by
    subst hs
    cases ast <;> try (simp only [cS] at h; cases h; done)
    simp only [cS, Bool.and_eq_true] at h
    refine PS.weak (ps_if (sT2 (sub := sub) hΦ t _ _ P X ok.toXOk rfl h.1.1).1 (sSs a _ _ P X ok rfl h.1.2) (sSs b _ _ P X ok rfl h.2)) fun D σ H ⟨δ, F, g, B, w⟩ => ?_
    unfold wS at w
    refine thenT hΦ B w (fun c g1 H1 F1 w1 G B1 => ?_) (SX.ex B)
    have e := G.ext B.ok
    cases c
    · exact ⟨δ, F1, g1, B1, wSs_mono hΦ b δ g1 _ _ _ _ (SD.le e) (SX.le e) w1⟩
    · exact ⟨δ, F1, g1, B1, wSs_mono hΦ a δ g1 _ _ _ _ (SD.le e) (SX.le e) w1⟩
  | .forS tg it b, sc, ast, P, X, ok, hs, h => by
    subst hs
    cases ast <;> try (simp only [cS] at h; cases h; done)
    rename_i y iter body els pos
    cases els with
    | cons _ _ => simp only [cS] at h; cases h
    | nil =>
      simp only [cS, Bool.and_eq_true] at h
      have pI := sIt (sub := sub) hΦ it false _ y iter P X ok.toXOk rfl h.1.2
      refine PS.weak (ps_for ok.own ok.calm pI.1 (sTg (P := P) ok.eK ok.eN ok.nd ok.calm (loc_fn ok) tg y h.1.1) (sSs b _ _ P X ok rfl h.2) pI.2) fun D σ H ⟨δ, F, g, B, w⟩ => ?_
      unfold wS at w
      refine ⟨δ, F, g, B, wIt_mono hΦ it δ g _ _ _ _ (fun ds g1 w1 J H1 F1 G src => ?_) (SX.ex B) w⟩
      have B1 := B.grow G
      have eG := G.ext B.ok
      refine ⟨fun i m σ2 H2 => m = ds.length - i ∧ i ≤ ds.length ∧ ∃ δ2 F2 g2, BI P.C P.H0 P.F0 δ2 σ2 H2 F2 g2 ∧ Ext F H F2 H2 ∧ Src false P.C (fun _ => False) F2 H2 J ds ∧ forW (fun x δ1 g1 D1 => ∃ δ2, asgT tg (.d x) δ1 = some δ2 ∧ wSs Φ sub b δ2 g1 D1 (SX P F H)) (ds.drop i) δ2 g2 (SD P D F H),
        ⟨ds.length, by simp, Nat.zero_le _, δ, F1, g1, B1, eG, src, by simpa using w1⟩, ?_⟩
      rintro i m σ2 H2 ⟨rfl, hi, δ2, F2, g2, B2, e2, src2, w2⟩
      by_cases hlt : i < ds.length
      · refine .inr ?_
        obtain ⟨go, yld⟩ := src2.go B2.ok hlt
        refine ⟨go, fun σ' H' => ds.length - (i + 1) = ds.length - (i + 1) ∧ i + 1 ≤ ds.length ∧ ∃ δ2 F2 g2, BI P.C P.H0 P.F0 δ2 σ' H' F2 g2 ∧ Ext F H F2 H' ∧ Src false P.C (fun _ => False) F2 H' J ds ∧ forW (fun x δ1 g1 D1 => ∃ δ2, asgT tg (.d x) δ1 = some δ2 ∧ wSs Φ sub b δ2 g1 D1 (SX P F H)) (ds.drop (i + 1)) δ2 g2 (SD P D F H),
          fun σ' H' z => ⟨_, by omega, z⟩, fun x H' y => ?_⟩
        obtain ⟨d, ed, Gy, rx⟩ := yld x H' y
        have By := B2.grow Gy
        have ey := Gy.ext B2.ok
        have ed' : ds.drop i = d :: ds.drop (i + 1) := by
          rw [List.drop_eq_getElem_cons hlt]
          rw [List.getElem?_eq_getElem hlt] at ed
          rw [Option.some.inj ed]
        rw [ed'] at w2
        unfold forW at w2
        obtain ⟨δ3, e3, w3⟩ := w2
        refine ⟨δ2, F2, g2, .d d, δ3, By, rx, e3, fun σ' B' _ => ⟨δ3, F2, g2, B', wSs_mono hΦ b δ3 g2 _ _ _ _ ⟨?_, ?_, ?_, ?_⟩ (SX.le (e2.trans ey)) w3⟩⟩
        · exact fun δ4 g4 w4 σ4 H4 F4 B4 e4 => ⟨rfl, hlt, δ4, F4, g4, B4, (e2.trans ey).trans e4, (src2.ext ey).ext e4, w4⟩
        · exact fun r g4 w4 => w4
        · exact fun δ4 g4 w4 σ4 H4 F4 B4 e4 => w4 σ4 H4 F4 B4 ((e2.trans ey).trans e4)
        · exact fun δ4 g4 w4 σ4 H4 F4 B4 e4 => ⟨rfl, hlt, δ4, F4, g4, B4, (e2.trans ey).trans e4, (src2.ext ey).ext e4, w4⟩
      · have e : i = ds.length := by omega
        subst e
        refine .inl ⟨src2.stop, ?_⟩
        rw [List.drop_length] at w2
        unfold forW at w2
        exact w2 σ2 H2 F2 B2 e2
  | .ret e, sc, ast, P, X, ok, hs, h => by
    subst hs
    cases ast <;> try (simp only [cS] at h; cases h; done)
    rename_i v pos
    cases v with
    | none => simp only [cS] at h; cases h
    | some v =>
      simp only [cS] at h
      refine PS.weak (ps_ret (sE (sub := sub) hΦ e false _ v P X ok.toXOk rfl h)) fun D σ H ⟨δ, F, g, B, w⟩ => ?_
      unfold wS at w
      exact thenE hΦ B w (fun x g1 u H1 F1 q G B1 r => q u H1 F1 (B.gr.trans G) r) (SX.ex B)
  | .rse c f e, sc, ast, P, X, ok, hs, h => by
    subst hs
    cases hv : (vRse ast).bind vCall1 with
    | none => simp only [cS, hv] at h; cases h
    | some t =>
      obtain ⟨x, u⟩ := t
      obtain ⟨ce, hv1, hv2⟩ := Option.bind_eq_some_iff.mp hv
      obtain ⟨pos, rfl⟩ := vRse_inv hv1
      obtain ⟨px, cpos, rfl⟩ := vCall1_inv hv2
      simp only [cS, hv, Bool.and_eq_true, decide_eq_true_eq, Bool.not_eq_true'] at h
      obtain ⟨⟨⟨⟨⟨h0, h1⟩, h2⟩, h3⟩, h4⟩, h5⟩ := h
      obtain ⟨fI, fd, ps, T, iC, tI, F1, bd⟩ := ok.glob.rse c f h0
      obtain ⟨mc, _⟩ := ok.glob.cls c x h1
      have kk := ok.eK
      refine PS.weak (ps_raise (W := P.W) ok.calm ok.tk (pmk_oex (CX := L2.CX X.prog X.w) (sp := spI (P.C.cls c) f) (k := 1) (dvs := []) (by rw [kk]; exact T) (by rw [kk]; exact iC) (by rw [kk]; exact tI) (by rw [kk]; exact F1) (ok.room.mono ok.two) (by rw [kk]; exact bd) .nil
        (passes_call ok.tk (fun _ _ _ _ z => z.elim)) (gl_of h2) mc (pa_cons (sE (sub := sub) hΦ e false _ u P X ok.toXOk rfl h5) pa_nil (star_cons h4 _ _)) (nm_of h3).1 (star_cons h4 _ _) rfl)) fun D σ H ⟨δ, F, g, B, w⟩ => ?_
      unfold wS at w
      refine thenE hΦ B w (fun v1 g1 u1 H1 F1 ⟨z, ez, q⟩ G B1 r => ?_) (SX.ex B)
      subst ez
      refine ⟨by show 1 ≤ 1000; omega, fun a na => ⟨a, u1, rfl, upd_same, fun dx hdx hne => ⟨rfl, dx, [(f, u1)], upd_same, ?_, ?_, ?_⟩⟩⟩
      · rw [upd_ne hne, upd_same]
      · rw [upd_ne hne] at hdx; exact hdx
      · have hd1 : H1 dx = none := by rw [upd_ne hne] at hdx; exact hdx
        have eH : upd (del (upd (upd (upd H1 a (exo a (P.C.cls c) none)) dx (exd dx [(f, u1)])) a (exo a (P.C.cls c) (some dx))) a) dx (.xd [(f, u1)]) = upd H1 dx (.xd [(f, u1)]) := by
          funext b
          by_cases hb : b = dx
          · subst hb; rw [upd_same, upd_same]
          · rw [upd_ne hb, upd_ne hb]
            by_cases ha : b = a
            · subst ha; rw [del_same]; exact na.symm
            · rw [del_ne ha, upd_ne ha, upd_ne hb, upd_ne ha]
        rw [eH]
        have G2 := B1.ok.allocF (.xd [(f, u1)]) hd1
        exact q _ _ σ _ _ (B1.grow G2) ((G.trans G2).ext B.ok) ⟨rfl, dx, [(f, u1)], rfl, .inr rfl, upd_same, .cons ⟨rfl, RP.mono (G2.ext B1.ok) r⟩ .nil⟩
  | .tryS b c i j, sc, ast, P, X, ok, hs, h => by
    subst hs
    cases hv : vTry ast with
    | none => simp only [cS, hv] at h; cases h
    | some t =>
      obtain ⟨body, x, n, s1⟩ := t
      obtain ⟨px, pos', pos, rfl⟩ := vTry_inv hv
      simp only [cS, hv, Bool.and_eq_true, decide_eq_true_eq] at h
      obtain ⟨⟨⟨⟨⟨⟨⟨⟨h0, h1⟩, h2⟩, h3⟩, h4⟩, h6⟩, h8⟩, h9⟩, h11⟩ := h
      cases hv2 : vAsgN s1 with
      | none => simp only [hv2] at h11; cases h11
      | some t2 =>
      obtain ⟨y, e2⟩ := t2
      obtain ⟨py, sp, rfl⟩ := vAsgN_inv hv2
      simp only [hv2, Bool.and_eq_true, decide_eq_true_eq] at h11
      obtain ⟨⟨h5, h12⟩, h10⟩ := h11
      obtain ⟨pn, rfl⟩ := isNm_inv h12
      obtain ⟨mc, _⟩ := ok.glob.cls c x h1
      refine PS.weak (ps_try_keep (i := i) (j := j) (tb := fun W => tS { P with W := W } (wSs Φ sub b)) (c := .ref (P.C.cls c)) (Wout := P.W) ok.stk ok.frm ok.ex (by rw [ok.eN]; exact ok.nd) (by rw [ok.eN]; exact h4) h9 (by rw [ok.eN]; exact h5) h10 h8 ⟨gl_of h2, (nm_of h3).1, .inl mc⟩ ok.tk
        fun W pn xe tk own => sSs b _ body { P with W := W } (X.tr pn xe) ⟨⟨ok.eK, ok.eN, ok.nd, ok.calm, tk, ok.quiet, ok.room, ok.sys, ok.glob⟩, ok.two, ok.ex, own, ok.stk, ok.frm, ok.fn, ok.kind⟩ rfl h0) fun D σ H ⟨δ, F, g, B, w⟩ => ?_
      unfold wS at w
      refine ⟨δ, F, g, B, wSs_mono hΦ b δ g _ _ _ _ ⟨fun _ _ z => z, fun _ _ z => z, fun _ _ z => z, fun _ _ z => z⟩ (fun c' fs δ' g' w' cls d σ' H' F' B' e x => ?_) w⟩
      obtain ⟨rfl, dx, vs, rfl, x1, x2, x3⟩ := x
      refine ⟨sub c' c, by rw [ok.eK]; exact ok.glob.exm c _ h1 c', fun hb => ⟨_, dx, rfl, rfl, fun a na => ?_⟩, fun hb => ?_⟩
      · rw [hb, if_pos rfl] at w'
        have G := B'.ok.allocF (cxo a (P.C.cls c') dx) na
        have eG := G.ext B'.ok
        have nd : dx ≠ a := ne_of_none x2 na
        have rv : RV P.C (fz F' a) (upd H' a (cxo a (P.C.cls c') dx)) (.ref a) (.exc c' fs) := ⟨a, dx, vs, rfl, .inr rfl, .inl x1, upd_same, by rw [upd_ne nd]; exact x2, Paired.mapP x3 fun p q z => ⟨z.1, RP.mono eG z.2⟩⟩
        have B2 := (((B'.grow G).un (i := i) (o := some (.ref a))).store' (i := j) rv).un (i := i) (o := none)
        rw [List.set_comm _ _ h6, List.set_set] at B2
        exact w' _ _ _ B2 (e.trans eG)
      · rw [hb, if_neg (by decide)] at w'
        exact w' _ _ σ' H' F' B' e ⟨rfl, dx, vs, rfl, x1, x2, x3⟩
  | .frz i, sc, ast, P, X, ok, hs, h => by
    cases ast <;> (unfold cS at h; cases h; done)
theorem sSs : ∀ (ss : Ss) (sc : Scope) (ast : List Stmt) (P : Pl) (X : Cx), SOk Γ Φ sub k N P X → X.env.scope = sc → cSs Γ N sc ss ast = true → PSs X ast (tS P (wSs Φ sub ss))
  | .nil, sc, ast, P, X, ok, hs, h => by
    cases ast with
    | cons _ _ => simp only [cSs] at h; cases h
    | nil =>
      refine PSs.weak pss_nil fun D σ H ⟨δ, F, g, B, w⟩ => ?_
      unfold wSs at w
      exact w σ H F B Ext.refl
  | .cons s r, sc, ast, P, X, ok, hs, h => by
    subst hs
    have step : ∀ st sts, ast = st :: sts → cS Γ N X.env.scope s st = true → cSs Γ N X.env.scope r sts = true → PSs X ast (tS P (wSs Φ sub (.cons s r))) := fun st sts ea h1 h2 => by
      subst ea
      refine PSs.weak (pss_cons (sS s _ st P X ok rfl h1) (sSs r _ sts P X ok rfl h2)) fun D σ H ⟨δ, F, g, B, w⟩ => ?_
      unfold wSs at w
      exact ⟨δ, F, g, B, wS_mono hΦ s δ g { SD P D F H with nx := fun δ' g' => wSs Φ sub r δ' g' (SD P D F H) (SX P F H) } _ _ _ ⟨fun δ' g' w' σ' H' F' B' e => ⟨δ', F', g', B', wSs_mono hΦ r δ' g' _ _ _ _ (SD.le e) (SX.le e) w'⟩, fun _ _ z => z, fun _ _ z => z, fun _ _ z => z⟩ (fun _ _ _ _ z => z) w⟩
    cases s with
    | frz i =>
      have h : cSs Γ N X.env.scope r ast = true := by
        unfold cSs at h
        exact h
      refine PSs.weak (sSs r _ ast P X ok rfl h) fun D σ H ⟨δ, F, g, B, w⟩ => ?_
      unfold wSs wS at w
      obtain ⟨δ', e, w⟩ := w
      obtain ⟨ds, hd, rfl⟩ := frz_inv e
      obtain ⟨F', B', ex⟩ := B.freeze hd
      exact ⟨_, F', g, B', wSs_mono hΦ r _ g _ _ _ _ (SD.le ex) (SX.le ex) w⟩
    | _ =>
      cases ast with
      | nil => unfold cSs at h; cases h
      | cons st sts =>
        unfold cSs at h
        rw [Bool.and_eq_true] at h
        exact step st sts rfl h.1 h.2
end
end
end NC

set_option Elab.async false
set_option linter.all false
set_option maxRecDepth 100000
set_option maxHeartbeats 4000000
namespace NC
open PySem PySem.Spec PyProof.Rows L2
/-! ### the functions of the text -/
theorem paired_get {α β : Type} {R : α → β → Prop} : ∀ {as : List α} {bs : List β} {i : Nat} {b : β}, Paired R as bs → bs[i]? = some b → ∃ a, as[i]? = some a ∧ R a b
  | _, _, _, _, .nil, h => by simp at h
  | _, _, 0, _, .cons r t, h => by simp at h; subst h; exact ⟨_, rfl, r⟩
  | _, _, i + 1, _, .cons r t, h => paired_get (i := i) t (by simpa using h)
theorem BI.start {C : Ctx} {F : Fz} {H : Hp} {g : Nat} {N : List Str} {vs : List V} {ds : List VD} {np ns : Nat} (ok : FOk C F H g) (r : RVs C F H vs ds) (e1 : ds.length = np) (e2 : ns = N.length) : BI C H F (ds.map .sh ++ List.replicate (ns - np) .un) (L2.start N vs) H F g := by
  have el : vs.length = ds.length := Paired.length r
  refine ⟨?_, fun i v h => ?_, fun i es h => ?_, fun i j es fs a _ h => ?_, ok.refl⟩
  · unfold L2.start
    simp only [List.length_append, List.length_map, List.length_replicate]
    omega
  · rw [List.getElem?_append] at h
    split at h
    · rename_i hl
      rw [List.getElem?_map] at h
      cases e : ds[i]? with
      | none => rw [e] at h; cases h
      | some d =>
        rw [e] at h
        cases h
        obtain ⟨x, ex, rx⟩ := paired_get r e
        refine ⟨x, ?_, rx⟩
        unfold L2.start
        rw [List.getElem?_append_left (by rw [List.length_map, el]; simpa using hl), List.getElem?_map, ex]
        rfl
    · rw [List.getElem?_replicate] at h
      split at h
      · cases h
      · cases h
  all_goals
    exfalso
    rw [List.getElem?_append] at h
    split at h
    · rw [List.getElem?_map] at h
      cases e : ds[i]? with
      | none => rw [e] at h; cases h
      | some d => rw [e] at h; cases h
    · rw [List.getElem?_replicate] at h
      split at h <;> cases h
section
variable {Γ : Gam} {fns : List Fn} {sub : Nat → Nat → Bool} {C : Ctx} {P : Program} {w : World} {mg : Str → Option Value} {base : Heap}
theorem SOk.frame {Φ : Calls} {k : Nat} {N ps : List Str} {qual : Str} {st : Stmt} {f : Addr} {cdv : Value} {A : Around} {outer : List PySem.Env} {s : Shared} {H H0 : Hp} {F0 : Fz} {E : XK} (G : GOk Γ C Φ sub k P w mg base) (sc : FnScope N ps (defScope st)) (two : 2 ≤ k) (sys : KSys base)
    (room : Room k (A.deeper (envOfC qual (defScope st) s.heap.objs.size f cdv))) (quiet : A.guards = some []) :
    SOk Γ Φ sub k N { C := C, H0 := H0, F0 := F0, W := fun cls d _ H' => E cls d H' } (cxOf (L2.CX P w) P w C.K mg base N qual (defScope st) f cdv A outer s H E) :=
  ⟨⟨rfl, rfl, sc.nd, rfl, takes_of (X := cxOf (L2.CX P w) P w C.K mg base N qual (defScope st) f cdv A outer s H E) (E := E) rfl rfl rfl rfl, quiet, room, sys, G⟩, two, rfl, passes_of (X := cxOf (L2.CX P w) P w C.K mg base N qual (defScope st) f cdv A outer s H E) rfl, rfl, rfl, fun _ => rfl, sc.kind⟩
/-- one function, its body in the small language -/
theorem fn_ok {kk k f : Nat} {fn : Fn} {x qual : Str} {st : Stmt} {fa : Addr} {fd : FuncData} {N ps : List Str} (G : GOk Γ C (calls fns sub kk) sub k P w mg base) (two : 2 ≤ k) (sys : KSys base) (hf : fns[f]? = some fn) (FF : Fun C.K x qual st fa fd) (sc : FnScope N ps (defScope st)) (e1 : fn.np = ps.length) (e2 : fn.ns = N.length)
    (hb : cSs Γ N (defScope st) fn.body (defBody st) = true) : FnG P w C.K mg base (k + 1) fa fd ps (spF C (calls fns sub (kk + 1)) f) := by
  refine fn_g FF sc (fun vs H Q E ⟨F, g, ds, ok, r, fn', h1, h2, _⟩ => ?_) fun cdv A outer s H vs Q E room quiet ⟨F, g, ds, ok, r, fn', h1, h2, w⟩ => ?_
  · rw [hf] at h1; cases h1
    rw [← e1, ← h2]; exact Paired.length r
  · rw [hf] at h1; cases h1
    refine ⟨_, sSs (sub := sub) (calls_mono fns sub kk) fn.body _ _ { C := C, H0 := H, F0 := F, W := fun cls d _ H' => E cls d H' } _ (SOk.frame G sc two sys room quiet) rfl hb, ?_⟩
    refine ⟨_, F, g, BI.start ok r h2 e2, wSs_mono (calls_mono fns sub kk) fn.body _ _ { nx := fun _ g' => ∀ v H' F', Grow C F H F' H' g' → RV C F' H' v (.d .none) → Q v H', rt := _ } _ _ _ ⟨fun δ' g' q σ' H' F' B e => ?_, fun r g' q v H' F' G' rv => ?_, fun _ _ z => z.elim, fun _ _ z => z.elim⟩ (fun c fs δ' g' q cls d σ' H' F' B e x => ?_) w⟩
    · exact q .non H' F' B.gr (show RP _ _ _ _ _ from .non)
    · exact q v H' F' G' rv
    · exact q cls d H' F' B.gr x
/-- what is to be said of each function of the text -/
def FT (Γ : Gam) (fns : List Fn) (K : PySem.W.Frag) (mg : Str → Option Value) : Prop := ∀ (f : Nat) (x : Str), Γ.fnm[f]? = some x → ∃ (fn : Fn) (st : Stmt) (qual : Str) (fa : Addr) (fd : FuncData) (N ps : List Str), fns[f]? = some fn ∧ mg x = some (.ref fa) ∧ Binds K fd ps [] ∧ Fun K x qual st fa fd ∧ FnScope N ps (defScope st) ∧ fn.np = ps.length ∧ fn.ns = N.length ∧
  cSs Γ N (defScope st) fn.body (defBody st) = true
theorem FnG.mono {j k : Nat} {K : PySem.W.Frag} {f : Addr} {fd : FuncData} {ps : List Str} {sp : Sp} (F : FnG P w K mg base j f fd ps sp) (h : j ≤ k) : FnG P w K mg base k f fd ps sp := ⟨F.len, fun A outer s H us vs Q E r => F.run A outer s H us vs Q E (r.mono h)⟩
/-- the globals but for the functions -/
structure GB (Γ : Gam) (C : Ctx) (sub : Nat → Nat → Bool) (P : Program) (w : World) (mg : Str → Option Value) (base : Heap) : Prop where
  con : ∀ x d, (x, d) ∈ Γ.con → ∃ u v, mg x = some u ∧ RelV v u ∧ ∀ F H, RP C.K F H v d
  blt : ∀ x ∈ bltNames, mg x = none
  drw : ∃ a fd, mg "_law_draw" = some (.ref a) ∧ PySem.W.keepIn C.K (.ref a) = true ∧ Binds C.K fd ["_law_state", "_law_many"] [] ∧ FnG P w C.K mg base 3 a fd ["_law_state", "_law_many"] (spD C)
  cls : ∀ c y, Γ.cnm[c]? = some y → mg y = some (.ref (C.cls c)) ∧ ∀ c', PySem.W.kitOne C.K (.ref (C.cls c')) (.ref (C.cls c)) = some (sub c' c)
  exm : ∀ c y, Γ.cnm[c]? = some y → ∀ c', PySem.W.exmOne C.K (.ref (C.cls c')) (.ref (C.cls c)) = some (sub c' c)
  ecl : ∀ c, ExcC C.K (C.cls c)
  rse : ∀ c f, (c, f) ∈ Γ.rsl → ∃ fI fd ps, OexC C.K (C.cls c) ∧ PySem.W.findIn C.K (.ref (C.cls c)) "__init__" = some (some (.ref fI)) ∧ PySem.W.typeIn C.K (.ref fI) = some (.type "function") ∧
    FnOk P w C.K mg base (L2.CX P w) 1 fI fd ps (spI (C.cls c) f) ∧ Binds C.K fd ps []
  fno : ∀ c f, f ∈ Γ.fld → PySem.W.findIn C.K (.ref (C.cls c)) f = some none
theorem gok (B : GB Γ C sub P w mg base) (sys : KSys base) (T : FT Γ fns C.K mg) : ∀ kk, GOk Γ C (calls fns sub kk) sub (kk + 3) P w mg base
  | 0 => ⟨fun f x h => by
      obtain ⟨fn, st, qual, fa, fd, N, ps, h1, h2, h3, h4, h5, _⟩ := T f x h
      exact ⟨fa, fd, ps, h2, h4.kp, h3, ⟨fun vs H Q E ⟨_, _, _, _, _, z⟩ => False.elim z, fun A outer s H us vs Q E _ _ _ _ _ ⟨_, _, _, _, _, z⟩ => False.elim z⟩⟩, B.con, B.blt, B.drw, B.cls, B.exm, B.ecl, B.rse, B.fno⟩
  | kk + 1 => by
    have ih := gok B sys T kk
    refine ⟨fun f x h => ?_, B.con, B.blt, ?_, B.cls, B.exm, B.ecl, B.rse, B.fno⟩
    · obtain ⟨fn, st, qual, fa, fd, N, ps, h1, h2, h3, h4, h5, h6, h7, h8⟩ := T f x h
      exact ⟨fa, fd, ps, h2, h4.kp, h3, fn_ok ih (by omega) sys h1 h4 h5 h6 h7 h8⟩
    · obtain ⟨a, fd, h1, h2, h3, h4⟩ := B.drw
      exact ⟨a, fd, h1, h2, h3, h4.mono (by omega)⟩
end
end NC

set_option Elab.async false
set_option linter.all false
set_option maxRecDepth 100000
set_option maxHeartbeats 4000000
namespace NC
open PySem PySem.Spec PyProof.Rows L2
/-! ### the law's own draws: whole numbers, the state's dict -/
inductive JO where
  | add | mul | mod | fdiv
inductive J where
  | v (i : Nat)
  | n (k : Int)
  | op (o : JO) (a b : J)
  | int1 (a : J)
  | dg (i : Nat) (key : Str)
  | ix (a b : J)
  | len (a : J)
  | mix (a b : J)
def mixI (i j : Int) : Int := (i % 2147483647 * (48271 + 2 * j * j) + 69621 * j + 11) % 2147483647 * 69621 % 2147483629
def jop : JO → Int → Int → Option Int
  | .add, i, j => some (i + j)
  | .mul, i, j => if (decide (-(2 ^ 64) < i) && decide (i < 2 ^ 64)) || (decide (-(2 ^ 64) < j) && decide (j < 2 ^ 64)) then some (i * j) else none
  | .mod, i, j => if decide (0 < j) then some (i % j) else none
  | .fdiv, i, j => if decide (0 < j) && decide (j < 1073741824) then some (i / j) else none
/-- its value, if it has one: nothing is changed -/
def JV (fl : Bool) (σ : L2.St) (H : Hp) : J → V → Prop
  | .v i, z => σ[i]? = some (some z)
  | .n k, z => z = .int k
  | .op o a b, z => ∃ i j r, JV fl σ H a (.int i) ∧ JV fl σ H b (.int j) ∧ jop o i j = some r ∧ z = .int r
  | .int1 a, z => ∃ i, JV fl σ H a (.int i) ∧ z = .int i
  | .dg i key, z => ∃ d kvs, σ[i]? = some (some (.ref d)) ∧ H d = some (.dK kvs) ∧ valV kvs (.inr key) = some z
  | .ix a b, z => ∃ p i xs, JV fl σ H a (.ref p) ∧ JV fl σ H b (.int i) ∧ H p = some (.lst xs) ∧ atI xs i = some z
  | .len a, z => ∃ p xs, JV fl σ H a (.ref p) ∧ H p = some (.lst xs) ∧ z = .int xs.length
  | .mix a b, z => fl = true ∧ ∃ i j, JV fl σ H a (.int i) ∧ JV fl σ H b (.int j) ∧ 0 ≤ j ∧ j < 2 ^ 61 ∧ z = .int (mixI i j)
def tJ (fl : Bool) (j : J) : TE := fun σ H Q => ∃ z, JV fl σ H j z ∧ Q z H
def spM : Sp := fun vs H Q _ => ∃ i j, vs = [.int i, .int j] ∧ 0 ≤ j ∧ j < 2 ^ 61 ∧ Q (.int (mixI i j)) H
def joB : JO → Operator → Bool
  | .add, .Add => true
  | .mul, .Mult => true
  | .mod, .Mod => true
  | .fdiv, .FloorDiv => true
  | _, _ => false
section
variable (N : List Str) (sc : Scope)
def cJ : J → Expr → Bool
  | .v i, .Name x _ => visB sc x && decide (N[i]? = some x) && nmB x
  | .n k, .Constant c _ _ => cstB (.int k) c
  | .op o a b, .BinOp x op y _ => joB o op && cJ a x && cJ b y
  | .int1 a, e => match vCall1 e with
    | some (f, x) => decide (f = "int") && glB sc f && !starB x && cJ a x
    | none => false
  | .dg i key, e => match vSubK e with
    | some (x, c) => visB sc x && decide (N[i]? = some x) && nmB x && cstB (.str key) c
    | none => false
  | .ix a b, .Subscript x y _ => !sliceB y && cJ a x && cJ b y
  | .len a, e => match vCall1 e with
    | some (f, x) => decide (f = "len") && glB sc f && !starB x && cJ a x
    | none => false
  | .mix a b, e => match vCall2 e with
    | some (f, x, y) => decide (f = "_law_mixed") && glB sc f && !starB x && !starB y && cJ a x && cJ b y
    | none => false
  | _, _ => false
def asgJ (i : Nat) (j : J) (s : Stmt) : Bool := match vAsgN s with
  | some (x, e) => locB sc x && decide (N[i]? = some x) && cJ N sc j e && !compB e
  | none => false
def retJ (j : J) : Stmt → Bool
  | .Return (some e) _ => cJ N sc j e
  | _ => false
def dputJ (i : Nat) (key : Str) (j : J) (s : Stmt) : Bool := match vAsgK s with
  | some (x, c, e) => visB sc x && decide (N[i]? = some x) && nmB x && cstB (.str key) c && cJ N sc j e && !compB e
  | none => false
def lputJ (a b j : J) (s : Stmt) : Bool := match vAsgS s with
  | some (x, y, e) => cJ N sc a x && cJ N sc b y && !sliceB y && cJ N sc j e && !compB e
  | none => false
end
/-- what the mixing is known by -/
structure MOk (fl : Bool) (k : Nat) (N : List Str) (X : Cx) : Prop where
  eN : X.N = N
  nd : N.Nodup
  tk : Takes X (fun _ _ _ _ => False)
  quiet : X.A.guards = some []
  room : Room k X.A
  blt : ∀ x ∈ bltNames, X.mg x = none
  mx : fl = true → ∃ a fd, X.mg "_law_mixed" = some (.ref a) ∧ PySem.W.keepIn X.K (.ref a) = true ∧ Binds X.K fd ["_law_cell", "_law_k"] [] ∧ FnG X.prog X.w X.K X.mg X.base k a fd ["_law_cell", "_law_k"] spM
theorem cst_int {k : Int} {c : Const} (h : cstB (.int k) c = true) : c = .int k := by
  cases c <;> first | (simp only [cstB, decide_eq_true_eq] at h; rw [h]) | cases h
theorem cst_str {k : Str} {c : Const} (h : cstB (.str k) c = true) : c = .str k := by
  cases c <;> first | (simp only [cstB, decide_eq_true_eq] at h; rw [h]) | cases h
theorem jop_ok {X : Cx} {o : JO} {op : Operator} (h : joB o op = true) : OpR X (binaryOp op) (fun x y H Q => ∃ i j r, x = .int i ∧ y = .int j ∧ jop o i j = some r ∧ Q (.int r) H) := by
  intro pins s σ H x y v u Q I rx ry ⟨i, j, r, e1, e2, e3, q⟩
  cases o <;> cases op <;> try (cases h; done)
  · cases e3; exact op_add pins s σ H x y v u Q I rx ry ⟨i, j, e1, e2, q⟩
  · simp only [jop] at e3
    split at e3
    · rename_i hc
      cases e3
      simp only [Bool.or_eq_true, Bool.and_eq_true, decide_eq_true_eq] at hc
      exact op_mul pins s σ H x y v u Q I rx ry ⟨i, j, e1, e2, hc, q⟩
    · cases e3
  · simp only [jop] at e3
    split at e3
    · rename_i hc
      cases e3
      exact op_mod pins s σ H x y v u Q I rx ry ⟨i, j, e1, e2, of_decide_eq_true hc, q⟩
    · cases e3
  · simp only [jop] at e3
    split at e3
    · rename_i hc
      cases e3
      simp only [Bool.and_eq_true, decide_eq_true_eq] at hc
      exact op_fdiv pins s σ H x y v u Q I rx ry ⟨i, j, e1, e2, hc, q⟩
    · cases e3
section
variable {fl : Bool} {k : Nat} {N : List Str} {X : Cx} (ok : MOk fl k N X)
include ok
theorem jE : ∀ (j : J) (ast : Expr), cJ N X.env.scope j ast = true → PE X ast (tJ fl j)
  | .v i, ast, h => by
    cases ast <;> try (simp only [cJ] at h; cases h; done)
    simp only [cJ, Bool.and_eq_true, decide_eq_true_eq] at h
    obtain ⟨n1, n2, n3⟩ := nm_of h.2
    exact PE.weak (pe_var (i := i) (by rw [ok.eN]; exact h.1.2) (vis_of h.1.1) n1 n2) fun σ H Q ⟨z, e, q⟩ => ⟨z, e, q⟩
  | .n n, ast, h => by
    cases ast <;> try (simp only [cJ] at h; cases h; done)
    simp only [cJ] at h
    have := cst_int h
    subst this
    exact PE.weak pe_int fun σ H Q ⟨z, e, q⟩ => by cases e; exact q
  | .op o a b, ast, h => by
    cases ast <;> try (simp only [cJ] at h; cases h; done)
    simp only [cJ, Bool.and_eq_true] at h
    refine PE.weak (pe_op (jop_ok h.1.1) (jE a _ h.1.2) (jE b _ h.2)) fun σ H Q ⟨z, ⟨i, j, r, e1, e2, e3, e4⟩, q⟩ => ?_
    subst e4
    exact ⟨_, e1, _, e2, i, j, r, rfl, rfl, e3, q⟩
  | .int1 a, ast, h => by
    cases hv : vCall1 ast with
    | none => simp only [cJ, hv] at h; cases h
    | some fx =>
      obtain ⟨f, x⟩ := fx
      obtain ⟨p, pos, rfl⟩ := vCall1_inv hv
      simp only [cJ, hv] at h
      simp only [Bool.and_eq_true, decide_eq_true_eq, Bool.not_eq_true'] at h
      obtain ⟨⟨⟨rfl, h1⟩, h2⟩, h3⟩ := h
      refine PE.weak (pe_callTy call_int1 (gl_of h1) (ok.blt _ (by simp [bltNames])) (by decide +kernel) (pa_cons (jE a _ h3) pa_nil (star_cons h2 _ _)) (by decide) (by decide) (star_cons h2 _ _) rfl) fun σ H Q ⟨z, ⟨i, e1, e2⟩, q⟩ => ?_
      subst e2
      exact ⟨_, e1, .inl ⟨i, rfl, q⟩⟩
  | .dg i key, ast, h => by
    cases hv : vSubK ast with
    | none => simp only [cJ, hv] at h; cases h
    | some fx =>
      obtain ⟨x, c⟩ := fx
      obtain ⟨px, cj, pc, pos, rfl⟩ := vSubK_inv hv
      simp only [cJ, hv] at h
      simp only [Bool.and_eq_true, decide_eq_true_eq] at h
      obtain ⟨⟨⟨h1, h2⟩, h3⟩, h4⟩ := h
      obtain ⟨n1, n2, n3⟩ := nm_of h3
      have := cst_str h4
      subst this
      refine PE.weak (pe_dget (by have := ok.room.un; omega) (pe_var (i := i) (by rw [ok.eN]; exact h2) (vis_of h1) n1 n2) pe_str (fun _ _ => rfl)) fun σ H Q ⟨z, ⟨d, kvs, e1, e2, e3⟩, q⟩ => ?_
      exact ⟨_, e1, d, z, rfl, .inl ⟨kvs, .inr key, .inl e2, rfl, e3.symm⟩, q⟩
  | .ix a b, ast, h => by
    cases ast <;> try (simp only [cJ] at h; cases h; done)
    simp only [cJ, Bool.and_eq_true, Bool.not_eq_true'] at h
    refine PE.weak (pe_ix ix_list (jE a _ h.1.2) (jE b _ h.2) (plain_ix h.1.1)) fun σ H Q ⟨z, ⟨p, i, xs, e1, e2, e3, e4⟩, q⟩ => ?_
    exact ⟨_, e1, _, e2, p, xs, i, z, rfl, rfl, SqL.of e3, e4, q⟩
  | .len a, ast, h => by
    cases hv : vCall1 ast with
    | none => simp only [cJ, hv] at h; cases h
    | some fx =>
      obtain ⟨f, x⟩ := fx
      obtain ⟨p, pos, rfl⟩ := vCall1_inv hv
      simp only [cJ, hv] at h
      simp only [Bool.and_eq_true, decide_eq_true_eq, Bool.not_eq_true'] at h
      obtain ⟨⟨⟨rfl, h1⟩, h2⟩, h3⟩ := h
      refine PE.weak (pe_callB call_len_seq (gl_of h1) (ok.blt _ (by simp [bltNames])) (by decide +kernel) (pa_cons (jE a _ h3) pa_nil (star_cons h2 _ _)) (by decide) (by decide) (star_cons h2 _ _) rfl) fun σ H Q ⟨z, ⟨p, xs, e1, e2, e3⟩, q⟩ => ?_
      subst e3
      exact ⟨_, e1, p, xs, rfl, .inl (SqL.of e2), q⟩
  | .mix a b, ast, h => by
    cases hv : vCall2 ast with
    | none => simp only [cJ, hv] at h; cases h
    | some fx =>
      obtain ⟨f, x, y⟩ := fx
      obtain ⟨p, pos, rfl⟩ := vCall2_inv hv
      simp only [cJ, hv] at h
      simp only [Bool.and_eq_true, decide_eq_true_eq, Bool.not_eq_true'] at h
      obtain ⟨⟨⟨⟨⟨rfl, h1⟩, h2⟩, h3⟩, h4⟩, h5⟩ := h
      by_cases hfl : fl = true
      case neg => exact ⟨fun pins s σ H Q I w => by obtain ⟨z, ⟨e0, _⟩, _⟩ := w; exact absurd e0 hfl⟩
      obtain ⟨fa, fd, m1, m2, m3, FG⟩ := ok.mx hfl
      refine PE.weak (pe_g1 FG ok.room ok.quiet m3 ok.tk (gl_of h1) m1 m2 (by decide +kernel) (pa_cons (jE a _ h4) (pa_cons (jE b _ h5) pa_nil (star_cons h3 _ _)) (star_cons h2 _ _)) (star_cons h2 _ _) (star_any (by rw [List.any_cons, h3]; rfl) _ _)) fun σ H Q ⟨z, ⟨_, i, j, e1, e2, e3, e4, e5⟩, q⟩ => ?_
      subst e5
      exact ⟨_, e1, _, e2, i, j, rfl, e3, e4, q⟩
theorem jAsg (hfn : ∀ x, X.fn x = true) {i : Nat} {j : J} {st : Stmt} (h : asgJ N X.env.scope i j st = true) : PS X st (fun D σ H => ∃ z, JV fl σ H j z ∧ D.nx (σ.set i (some z)) H) := by
  cases hv : vAsgN st with
  | none => simp only [asgJ, hv] at h; cases h
  | some xe =>
    obtain ⟨x, e⟩ := xe
    obtain ⟨px, pos, rfl⟩ := vAsgN_inv hv
    simp only [asgJ, hv, Bool.and_eq_true, decide_eq_true_eq, Bool.not_eq_true'] at h
    obtain ⟨⟨⟨h1, h2⟩, h3⟩, h4⟩ := h
    exact PS.weak (ps_set (i := i) (by rw [ok.eN]; exact ok.nd) (by rw [ok.eN]; exact h2) (loc_of h1) (jE ok j e h3) (swaps_no h4 _ _ _) (.inl (hfn _))) fun D σ H w => w
theorem jRet {j : J} {st : Stmt} (h : retJ N X.env.scope j st = true) : PS X st (fun D σ H => ∃ z, JV fl σ H j z ∧ D.rt z H) := by
  cases st <;> try (simp only [retJ] at h; cases h; done)
  rename_i e pos
  cases e with
  | none => simp only [retJ] at h; cases h
  | some e => exact PS.weak (ps_ret (jE ok j e h)) fun D σ H w => w
theorem jDput {i : Nat} {key : Str} {j : J} {st : Stmt} (h : dputJ N X.env.scope i key j st = true) : PS X st (fun D σ H => ∃ z d kvs, JV fl σ H j z ∧ σ[i]? = some (some (.ref d)) ∧ H d = some (.dK kvs) ∧ kvs.length < sizeLine ∧ D.nx σ (upd H d (.dK (putK kvs (.inr key) z)))) := by
  cases hv : vAsgK st with
  | none => simp only [dputJ, hv] at h; cases h
  | some xe =>
    obtain ⟨x, c, e⟩ := xe
    obtain ⟨px, cj, pc, ps, pos, rfl⟩ := vAsgK_inv hv
    simp only [dputJ, hv, Bool.and_eq_true, decide_eq_true_eq, Bool.not_eq_true'] at h
    obtain ⟨⟨⟨⟨⟨h1, h2⟩, h3⟩, h4⟩, h5⟩, h6⟩ := h
    obtain ⟨n1, n2, n3⟩ := nm_of h3
    have := cst_str h4
    subst this
    refine PS.weak (ps_dput (by have := ok.room.un; omega) (pe_var (i := i) (by rw [ok.eN]; exact h2) (vis_of h1) n1 n2) pe_str (jE ok j e h5) (swaps_no h6 _ _ _)) fun D σ H ⟨z, d, kvs, e1, e2, e3, e4, q⟩ => ?_
    exact ⟨z, e1, _, e2, d, _, rfl, .inl ⟨kvs, .inr key, e3, rfl, e4, rfl⟩, q⟩
theorem jLput {a b j : J} {st : Stmt} (h : lputJ N X.env.scope a b j st = true) : PS X st (fun D σ H => ∃ z p i xs n, JV fl σ H j z ∧ JV fl σ H a (.ref p) ∧ JV fl σ H b (.int i) ∧ H p = some (.lst xs) ∧ ixN xs.length i = some n ∧ D.nx σ (upd H p (.lst (xs.set n z)))) := by
  cases hv : vAsgS st with
  | none => simp only [lputJ, hv] at h; cases h
  | some xe =>
    obtain ⟨x, y, e⟩ := xe
    obtain ⟨ps, pos, rfl⟩ := vAsgS_inv hv
    simp only [lputJ, hv, Bool.and_eq_true, Bool.not_eq_true'] at h
    obtain ⟨⟨⟨⟨h1, h2⟩, h3⟩, h4⟩, h5⟩ := h
    refine PS.weak (ps_asg (jE ok j e h4) (pg_sub (jE ok a x h1) (jE ok b y h2) set_list (fun v => by cases y <;> first | rfl | cases h3)) (by unfold swapsWithSole; exact swaps_no h5 _ _ _) (by cases e <;> rfl) rfl) fun D σ H ⟨z, p, i, xs, n, e1, e2, e3, e4, e5, q⟩ => ?_
    exact ⟨z, e1, _, e2, _, e3, p, xs, i, n, rfl, rfl, e4, e5, q⟩
end
end NC

set_option Elab.async false
set_option linter.all false
set_option maxRecDepth 100000
set_option maxHeartbeats 4000000
namespace NC
open PySem PySem.Spec PyProof.Rows L2
/-! ### _law_mixed -/
def mixJ : J := .op .mod (.op .mul (.op .mod (.op .add (.op .add (.op .mul (.v 0) (.op .add (.n 48271) (.op .mul (.op .mul (.n 2) (.v 1)) (.v 1)))) (.op .mul (.n 69621) (.v 1))) (.n 11)) (.n 2147483647)) (.n 69621)) (.n 2147483629)
def mixB (sc : Scope) : List Stmt → Bool
  | [s1, s2] => asgJ ["_law_cell", "_law_k"] sc 0 (.op .mod (.int1 (.v 0)) (.n 2147483647)) s1 && retJ ["_law_cell", "_law_k"] sc mixJ s2
  | _ => false
theorem mul_ok {i j : Int} (h : (-(2 ^ 64) < i ∧ i < 2 ^ 64) ∨ (-(2 ^ 64) < j ∧ j < 2 ^ 64)) : jop .mul i j = some (i * j) := by
  simp only [jop]
  rw [if_pos]
  simp only [Bool.or_eq_true, Bool.and_eq_true, decide_eq_true_eq]
  exact h
theorem mod_ok {i j : Int} (h : 0 < j) : jop .mod i j = some (i % j) := by
  simp only [jop]
  rw [if_pos (decide_eq_true h)]
theorem fdiv_ok {i j : Int} (h : 0 < j) (h2 : j < 1073741824) : jop .fdiv i j = some (i / j) := by
  simp only [jop]
  rw [if_pos (by simp [h, h2])]
theorem mix_val {fl : Bool} {σ : L2.St} {H : Hp} {i j : Int} (h0 : σ[0]? = some (some (.int (i % 2147483647)))) (h1 : σ[1]? = some (some (.int j))) (hj : 0 ≤ j) (hj2 : j < 2 ^ 61) : JV fl σ H mixJ (.int (mixI i j)) := by
  have a1 := Int.emod_nonneg i (show (2147483647 : Int) ≠ 0 by decide)
  have a2 := Int.emod_lt_of_pos i (show (0 : Int) < 2147483647 by decide)
  refine ⟨_, _, _, ⟨_, _, _, ⟨_, _, _, ⟨_, _, _, ⟨_, _, _, ⟨_, _, _, h0, ⟨_, _, _, rfl, ⟨_, _, _, ⟨_, _, _, rfl, h1, mul_ok (.inl (by decide)), rfl⟩, h1, mul_ok (.inr ⟨by omega, by omega⟩), rfl⟩, rfl, rfl⟩, mul_ok (.inl ⟨by omega, by omega⟩), rfl⟩, ⟨_, _, _, rfl, h1, mul_ok (.inl (by decide)), rfl⟩, rfl, rfl⟩, rfl, rfl, rfl⟩, rfl, mod_ok (by decide), rfl⟩, rfl, mul_ok (.inr (by decide)), rfl⟩, rfl, mod_ok (by decide), rfl⟩
section
variable {P : Program} {w : World} {K : PySem.W.Frag} {mg : Str → Option Value} {base : Heap}
theorem MOk.frame {fl : Bool} {k : Nat} {N ps : List Str} {qual : Str} {st : Stmt} {f : Addr} {cdv : Value} {A : Around} {outer : List PySem.Env} {s : Shared} {H : Hp} {E : XK} (sc : FnScope N ps (defScope st)) (room : Room k (A.deeper (envOfC qual (defScope st) s.heap.objs.size f cdv))) (quiet : A.guards = some []) (blt : ∀ x ∈ bltNames, mg x = none)
    (mx : fl = true → ∃ a fd, mg "_law_mixed" = some (.ref a) ∧ PySem.W.keepIn K (.ref a) = true ∧ Binds K fd ["_law_cell", "_law_k"] [] ∧ FnG P w K mg base k a fd ["_law_cell", "_law_k"] spM) :
    MOk fl k N (cxOf (L2.CX P w) P w K mg base N qual (defScope st) f cdv A outer s H E) :=
  ⟨rfl, sc.nd, (takes_of (X := cxOf (L2.CX P w) P w K mg base N qual (defScope st) f cdv A outer s H E) (E := E) rfl rfl rfl rfl).imp fun _ _ _ _ z => z.elim, quiet, room, blt, mx⟩
theorem fn_mix {qual : Str} {st : Stmt} {fa : Addr} {fd : FuncData} (FF : Fun K "_law_mixed" qual st fa fd) (sc : FnScope ["_law_cell", "_law_k"] ["_law_cell", "_law_k"] (defScope st)) (blt : ∀ x ∈ bltNames, mg x = none) (hb : mixB (defScope st) (defBody st) = true) :
    FnG P w K mg base 1 fa fd ["_law_cell", "_law_k"] spM := by
  refine fn_g FF sc (fun vs H Q E ⟨i, j, e, _⟩ => by subst e; rfl) fun cdv A outer s H vs Q E room quiet ⟨i, j, e, h0, h1, q⟩ => ?_
  subst e
  generalize eb : defBody st = body at hb ⊢
  unfold mixB at hb
  split at hb
  · rename_i s1 s2
    rw [Bool.and_eq_true] at hb
    have ok : MOk false 0 ["_law_cell", "_law_k"] (cxOf (L2.CX P w) P w K mg base ["_law_cell", "_law_k"] qual (defScope st) fa cdv A outer s H E) := MOk.frame sc room quiet blt (fun z => nomatch z)
    refine ⟨_, pss_cons (jAsg ok (fun _ => rfl) hb.1) (pss_one (jRet ok hb.2)), ?_⟩
    refine ⟨_, ⟨_, _, _, ⟨_, rfl, rfl⟩, rfl, mod_ok (by decide), rfl⟩, _, mix_val (i := i) (j := j) rfl rfl h0 h1, q⟩
  · cases hb
/-! ### _law_draw -/
def vIfGt : Stmt → Option (Expr × Expr × Stmt × Stmt)
  | .If (.Compare l [.Gt] [r] _) [a, b] [] _ => some (l, r, a, b)
  | _ => none
theorem vIfGt_inv {s : Stmt} {l r : Expr} {a b : Stmt} (h : vIfGt s = some (l, r, a, b)) : ∃ p pos, s = .If (.Compare l [.Gt] [r] p) [a, b] [] pos := by
  unfold vIfGt at h
  split at h
  · cases h; exact ⟨_, _, rfl⟩
  · cases h
def drN : List Str := ["_law_state", "_law_many", "_law_at", "_law_place", "_law_left", "_law_number"]
def drIfB (sc : Scope) (s : Stmt) : Bool := match vIfGt s with
  | some (l, r, a, b) => cJ drN sc (.v 4) l && cJ drN sc (.n 0) r && lputJ drN sc (.dg 0 "lefts") (.v 3) (.op .fdiv (.v 4) (.v 1)) a && retJ drN sc (.op .mod (.int1 (.v 4)) (.v 1)) b
  | none => false
def drawB (sc : Scope) : List Stmt → Bool
  | [s1, s2, s3, s4, s5, s6, s7] => asgJ drN sc 2 (.dg 0 "at") s1 && dputJ drN sc 0 "at" (.op .add (.v 2) (.n 1)) s2 && asgJ drN sc 3 (.op .mod (.int1 (.v 2)) (.len (.dg 0 "cells"))) s3 && asgJ drN sc 4 (.ix (.dg 0 "lefts") (.v 3)) s4 && drIfB sc s5 &&
      asgJ drN sc 5 (.mix (.mix (.ix (.dg 0 "cells") (.v 3)) (.v 2)) (.op .add (.n 40) (.v 2))) s6 && retJ drN sc (.op .mod (.op .fdiv (.int1 (.op .add (.op .mul (.v 5) (.n 2147483647)) (.mix (.v 5) (.op .add (.n 7) (.v 2))))) (.n 64)) (.v 1)) s7
  | _ => false
theorem sd1 : Str.ofString "cells" ≠ Str.ofString "at" := by decide +kernel
theorem sd2 : Str.ofString "lefts" ≠ Str.ofString "at" := by decide +kernel
theorem sd3 : Str.ofString "room" ≠ Str.ofString "at" := by decide +kernel
theorem sd4 : Str.ofString "cells" ≠ Str.ofString "lefts" := by decide +kernel
theorem stD_put (C : Ctx) (g : Nat) : putK (stD C g) (.inr "at") (.int ((g : Int) + 1)) = stD C (g + 1) := by
  unfold putK stD
  simp [sd1, sd2, sd3]
theorem stD_at (C : Ctx) (g : Nat) : valV (stD C g) (.inr "at") = some (.int (g : Nat)) := by
  unfold valV stD
  simp [List.find?, sd1, sd2, sd3, sd4]
theorem stD_cells (C : Ctx) (g : Nat) : valV (stD C g) (.inr "cells") = some (.ref C.cl) := by
  unfold valV stD
  simp [List.find?, sd1, sd2, sd3, sd4]
theorem stD_lefts (C : Ctx) (g : Nat) : valV (stD C g) (.inr "lefts") = some (.ref C.lf) := by
  unfold valV stD
  simp [List.find?, sd1, sd2, sd3, sd4]
theorem atI_map {ls : List Int} {i : Int} (h0 : 0 ≤ i) (h1 : i < ls.length) : ∃ n l, ixN (ls.map V.int).length i = some n ∧ n < ls.length ∧ ls[n]? = some l ∧ atI (ls.map V.int) i = some (.int l) := by
  have hn : i.toNat < ls.length := by omega
  have e : ixN (ls.map V.int).length i = some i.toNat := by
    unfold ixN
    rw [if_pos h0, if_pos (by rw [List.length_map]; exact h1)]
  refine ⟨i.toNat, ls[i.toNat], e, hn, List.getElem?_eq_getElem hn, ?_⟩
  unfold atI
  rw [e]
  show (ls.map V.int)[i.toNat]? = _
  rw [List.getElem?_map, List.getElem?_eq_getElem hn]
  rfl
theorem fn_draw {C : Ctx} {qual : Str} {st : Stmt} {fa : Addr} {fd : FuncData} (hK : K = C.K) (FF : Fun K "_law_draw" qual st fa fd) (sc : FnScope drN ["_law_state", "_law_many"] (defScope st)) (blt : ∀ x ∈ bltNames, mg x = none) (hb : drawB (defScope st) (defBody st) = true)
    (mx : ∃ a fd, mg "_law_mixed" = some (.ref a) ∧ PySem.W.keepIn K (.ref a) = true ∧ Binds K fd ["_law_cell", "_law_k"] [] ∧ FnG P w K mg base 1 a fd ["_law_cell", "_law_k"] spM) :
    FnG P w K mg base 3 fa fd ["_law_state", "_law_many"] (spD C) := by
  refine fn_g FF sc (fun vs H Q E ⟨F, g, m, ok, e, _⟩ => by subst e; rfl) fun cdv A outer s H vs Q E room quiet ⟨F, g, m, ok, e, h1, h2, h3, q⟩ => ?_
  subst e
  generalize eb : defBody st = body at hb ⊢
  unfold drawB at hb
  split at hb
  · rename_i s1 s2 s3 s4 s5 s6 s7
    simp only [Bool.and_eq_true] at hb
    obtain ⟨⟨⟨⟨⟨⟨b1, b2⟩, b3⟩, b4⟩, b5⟩, b6⟩, b7⟩ := hb
    have mo : MOk true 2 drN (cxOf (L2.CX P w) P w K mg base drN qual (defScope st) fa cdv A outer s H E) := MOk.frame sc room quiet blt (fun _ => by
      obtain ⟨a, fd, x1, x2, x3, x4⟩ := mx
      exact ⟨a, fd, x1, x2, x3, x4.mono (by omega)⟩)
    unfold drIfB at b5
    split at b5
    · rename_i l r a b hv
      obtain ⟨p, pos, rfl⟩ := vIfGt_inv hv
      simp only [Bool.and_eq_true] at b5
      obtain ⟨⟨⟨c1, c2⟩, c3⟩, c4⟩ := b5
      refine ⟨_, pss_cons (jAsg mo (fun _ => rfl) b1) (pss_cons (jDput mo b2) (pss_cons (jAsg mo (fun _ => rfl) b3) (pss_cons (jAsg mo (fun _ => rfl) b4) (pss_cons (ps_if (pt_cmpR op_gt (jE mo (.v 4) l c1) (jE mo (.n 0) r c2) (by cases r <;> first | rfl | (simp only [cJ] at c2; cases c2))) (pss_cons (jLput mo c3) (pss_one (jRet mo c4))) pss_nil) (pss_cons (jAsg mo (fun _ => rfl) b6) (pss_one (jRet mo b7))))))), ?_⟩
      obtain ⟨ls, l1, cs, l2, l3, l4⟩ := ok.sta.lf
      have hst := ok.sta.st
      have n1 : C.lf ≠ C.st := fun z => by rw [z, hst] at l1; cases l1
      have n2 : C.cl ≠ C.st := fun z => by rw [z, hst] at l2; cases l2
      have g0 : (0 : Int) ≤ (g : Int) % cs.length := Int.emod_nonneg _ (by omega)
      have g1 : (g : Int) % cs.length < cs.length := Int.emod_lt_of_pos _ (by omega)
      obtain ⟨n, lv, x1, x2, x3, x4⟩ := atI_map (ls := ls) g0 (by rw [l3]; exact g1)
      obtain ⟨n', cv, y1, y2, y3, y4⟩ := atI_map (ls := cs) g0 g1
      have fe : ∀ b, b ≠ C.st → upd H C.st (.dK (putK (stD C g) (.inr "at") (.int ((g : Int) + 1)))) b = H b := fun b hb => upd_ne hb
      have hg : (g : Int) < 2 ^ 60 := by exact_mod_cast h3
      -- the state behind the first two statements
      have S1 : SI C (upd H C.st (.dK (putK (stD C g) (.inr "at") (.int ((g : Int) + 1))))) (g + 1) := ⟨by rw [upd_same, stD_put], ⟨ls, by rw [fe _ n1]; exact l1, cs, by rw [fe _ n2]; exact l2, l3, l4⟩, ok.sta.ne⟩
      have G1 : Grow C F H F (upd H C.st (.dK (putK (stD C g) (.inr "at") (.int ((g : Int) + 1))))) (g + 1) := ⟨fun a o e hn => by rw [fe _ (fun z => hn (.inl z))]; exact e, fun _ h => h, fun _ h => .inl h, fun a h => by rw [fe _ (fun z => ok.nst a h (.inl z))]; exact ok.trk a h, ok.nst, S1⟩
      refine ⟨_, ⟨C.st, _, rfl, hst, stD_at C g⟩, _, C.st, _, ⟨_, _, _, rfl, rfl, rfl, rfl⟩, rfl, hst, by show 4 < sizeLine; rw [sizeLine_eq]; decide, ?_⟩
      refine ⟨_, ⟨_, _, _, ⟨_, rfl, rfl⟩, ⟨C.cl, _, ⟨C.st, _, rfl, upd_same, by rw [stD_put]; exact stD_cells C (g + 1)⟩, by rw [fe _ n2]; exact l2, rfl⟩, mod_ok (by rw [List.length_map]; omega), rfl⟩, ?_⟩
      rw [List.length_map]
      refine ⟨_, ⟨C.lf, _, _, ⟨C.st, _, rfl, upd_same, by rw [stD_put]; exact stD_lefts C (g + 1)⟩, rfl, by rw [fe _ n1]; exact l1, x4⟩, ?_⟩
      refine ⟨_, rfl, _, rfl, lv, 0, rfl, rfl, _, rfl, ?_⟩
      show (if (decide (0 < lv)) = true then _ else _)
      by_cases hp : (0 : Int) < lv
      · rw [if_pos (decide_eq_true hp)]
        refine ⟨_, C.lf, _, _, n, ⟨_, _, _, rfl, rfl, fdiv_ok h1 h2, rfl⟩, ⟨C.st, _, rfl, upd_same, by rw [stD_put]; exact stD_lefts C (g + 1)⟩, rfl, by rw [fe _ n1]; exact l1, x1, ?_⟩
        refine ⟨_, ⟨_, _, _, ⟨_, rfl, rfl⟩, rfl, mod_ok h1, rfl⟩, ?_⟩
        have em : (ls.map V.int).set n (.int (lv / m)) = (ls.set n (lv / m)).map V.int := by rw [List.map_set]
        refine q _ _ (Int.emod_nonneg _ (by omega)) (Int.emod_lt_of_pos _ h1) (G1.trans ⟨fun a o e hn => by rw [upd_ne (fun z => hn (.inr (.inl z)))]; exact e, fun _ h => h, fun _ h => .inl h, fun a h => by rw [upd_ne (fun z => ok.nst a h (.inr (.inl z)))]; exact G1.trk a h, ok.nst, ?_⟩)
        exact ⟨by rw [upd_ne (Ne.symm n1)]; exact S1.st, ⟨ls.set n (lv / m), by rw [upd_same, em], cs, by rw [upd_ne (Ne.symm ok.sta.ne), fe _ n2]; exact l2, by rw [List.length_set]; exact l3, l4⟩, ok.sta.ne⟩
      · rw [if_neg (by simpa using hp)]
        refine ⟨_, ⟨rfl, _, _, ⟨rfl, _, _, ⟨C.cl, _, _, ⟨C.st, _, rfl, upd_same, by rw [stD_put]; exact stD_cells C (g + 1)⟩, rfl, by rw [fe _ n2]; exact l2, y4⟩, rfl, by omega, by omega, rfl⟩, ⟨_, _, _, rfl, rfl, rfl, rfl⟩, by omega, by omega, rfl⟩, ?_⟩
        refine ⟨_, ⟨_, _, _, ⟨_, _, _, ⟨_, ⟨_, _, _, ⟨_, _, _, rfl, rfl, mul_ok (.inr (by decide)), rfl⟩, ⟨rfl, _, _, rfl, ⟨_, _, _, rfl, rfl, rfl, rfl⟩, by omega, by omega, rfl⟩, rfl, rfl⟩, rfl⟩, rfl, fdiv_ok (by decide) (by decide), rfl⟩, rfl, mod_ok h1, rfl⟩, ?_⟩
        exact q _ _ (Int.emod_nonneg _ (by omega)) (Int.emod_lt_of_pos _ h1) G1
    · cases b5
  · cases hb
end
end NC

set_option Elab.async false
set_option linter.all false
set_option maxRecDepth 100000
set_option maxHeartbeats 4000000
namespace NC
open PySem PySem.Spec PyProof.Rows L2
/-! ### _law_begin -/
def vIfE : Expr → Option (Expr × Expr × Expr)
  | .IfExp c a b _ => some (c, a, b)
  | _ => none
def vCmp1 : Expr → Option (Expr × CmpOp × Expr)
  | .Compare a [op] [b] _ => some (a, op, b)
  | _ => none
def vLst : Expr → Option (List Expr)
  | .List es _ => some es
  | _ => none
def vPow : Expr → Option (Const × Const)
  | .BinOp (.Constant c _ _) .Pow (.Constant d _ _) _ => some (c, d)
  | _ => none
def vLc : Expr → Option (Expr × Expr × Expr × Scope)
  | .ListComp e [⟨t, i, [], 0⟩] s _ => some (e, t, i, s)
  | _ => none
def vRet : Stmt → Option Expr
  | .Return (some e) _ => some e
  | _ => none
def vDic : Expr → Option (List (Option Expr) × List Expr)
  | .Dict ks vs _ => some (ks, vs)
  | _ => none
theorem vIfE_inv {e c a b : Expr} (h : vIfE e = some (c, a, b)) : ∃ p, e = .IfExp c a b p := by
  unfold vIfE at h; split at h
  · cases h; exact ⟨_, rfl⟩
  · cases h
theorem vCmp1_inv {e a b : Expr} {op : CmpOp} (h : vCmp1 e = some (a, op, b)) : ∃ p, e = .Compare a [op] [b] p := by
  unfold vCmp1 at h; split at h
  · cases h; exact ⟨_, rfl⟩
  · cases h
theorem vLst_inv {e : Expr} {es : List Expr} (h : vLst e = some es) : ∃ p, e = .List es p := by
  unfold vLst at h; split at h
  · cases h; exact ⟨_, rfl⟩
  · cases h
theorem vPow_inv {e : Expr} {c d : Const} (h : vPow e = some (c, d)) : ∃ p q r s t, e = .BinOp (.Constant c p q) .Pow (.Constant d r s) t := by
  unfold vPow at h; split at h
  · cases h; exact ⟨_, _, _, _, _, rfl⟩
  · cases h
theorem vLc_inv {e x t i : Expr} {s : Scope} (h : vLc e = some (x, t, i, s)) : ∃ p, e = .ListComp x [⟨t, i, [], 0⟩] s p := by
  unfold vLc at h; split at h
  · cases h; exact ⟨_, rfl⟩
  · cases h
theorem vRet_inv {s : Stmt} {e : Expr} (h : vRet s = some e) : ∃ p, s = .Return (some e) p := by
  unfold vRet at h; split at h
  · cases h; exact ⟨_, rfl⟩
  · cases h
theorem vDic_inv {e : Expr} {ks : List (Option Expr)} {vs : List Expr} (h : vDic e = some (ks, vs)) : ∃ p, e = .Dict ks vs p := by
  unfold vDic at h; split at h
  · cases h; exact ⟨_, rfl⟩
  · cases h
def bgN : List Str := ["_law_script", "_law_cells", "_law_cell"]
def strB (k : Str) : Option Expr → Bool
  | some (.Constant c _ _) => cstB (.str k) c
  | _ => false
/-- list(script) if script != [] else [0] -/
def bg1B (sc : Scope) (s : Stmt) : Bool := match vAsgN s with
  | some (x, e) => locB sc x && decide (bgN[1]? = some x) && (match vIfE e with
    | some (c, a, b) => (match vCmp1 c, vCall1 a, vLst b with
      | some (l, .NotEq, r), some (f, y), some [z] => cJ bgN sc (.v 0) l && (match vLst r with | some [] => true | _ => false) && decide (f = "list") && glB sc f && !starB y && cJ bgN sc (.v 0) y && !starB z && cJ bgN sc (.n 0) z
      | _, _, _ => false)
    | none => false)
  | none => false
/-- c if c >= 10 ** 18 else 0 -/
def bgEB (sc : Scope) (e : Expr) : Bool := match vIfE e with
  | some (c, a, b) => (match vCmp1 c with
    | some (l, .GtE, r) => cJ bgN sc (.v 2) l && (match vPow r with | some (c, d) => cstB (.int 10) c && cstB (.int 18) d | none => false) && cJ bgN sc (.v 2) a && cJ bgN sc (.n 0) b
    | _ => false)
  | none => false
def bgLB (sc : Scope) (e : Expr) : Bool := match vLc e with
  | some (x, t, i, scope) => blkC bgN sc scope (ownOf bgN [2]) && tgB bgN (blkT scope sc) (.name 2) t && cJ bgN sc (.v 1) i && !setB i && bgEB (relS scope sc) x
  | none => false
def bg2B (sc : Scope) (s : Stmt) : Bool := match vRet s with
  | some e => (match vDic e with
    | some ([k1, k2, k3, k4], [v1, v2, v3, v4]) => strB "cells" k1 && strB "lefts" k2 && strB "at" k3 && strB "room" k4 && cJ bgN sc (.v 1) v1 && bgLB sc v2 && cJ bgN sc (.n 0) v3 && cJ bgN sc (.n 0) v4
    | _ => false)
  | none => false
def beginB (sc : Scope) : List Stmt → Bool
  | [s1, s2] => bg1B sc s1 && bg2B sc s2
  | _ => false
/-- what the beginning promises -/
def spB (K : PySem.W.Frag) (cls : Nat → Addr) : Sp := fun vs H Q _ => ∃ (a : Addr) (ns : List Int), vs = [.ref a] ∧ SqL K H a (ns.map V.int) ∧ ns.length < 16777216 ∧ ∀ (C : Ctx) (H' : Hp), C.K = K → C.cls = cls → (∀ b o, H b = some o → H' b = some o) → SI C H' 0 → Q (.ref C.st) H'
theorem str_inv {k : Str} {o : Option Expr} (h : strB k o = true) : ∃ p q, o = some (.Constant (.str k) p q) := by
  unfold strB at h; split at h
  · have := cst_str h
    subst this
    exact ⟨_, _, rfl⟩
  · cases h
def bgT : TE := fun σ H Q => ∃ i, σ[2]? = some (some (.int i)) ∧ Q (.int (if 10 ^ 18 ≤ i then i else 0)) H
section
variable {X : Cx} {k : Nat} (ok : MOk false k bgN X) (calm : X.calm = true)
include ok
theorem bgE {ast : Expr} (h : bgEB X.env.scope ast = true) : PE X ast bgT := by
  unfold bgEB at h
  split at h
  · rename_i c a b hv
    split at h
    · rename_i l r hc
      obtain ⟨p, rfl⟩ := vIfE_inv hv
      obtain ⟨p2, rfl⟩ := vCmp1_inv hc
      simp only [Bool.and_eq_true] at h
      obtain ⟨⟨⟨h1, h2⟩, h3⟩, h4⟩ := h
      split at h2
      · rename_i c1 c2 hp
        obtain ⟨q1, q2, q3, q4, q5, rfl⟩ := vPow_inv hp
        rw [Bool.and_eq_true] at h2
        have e1 := cst_int h2.1
        have e2 := cst_int h2.2
        subst e1 e2
        refine PE.weak (pe_ifExp (pt_cmpR op_ge (jE ok _ l h1) (pe_op op_pow pe_int pe_int) rfl) (jE ok _ a h3) (jE ok _ b h4)) fun σ H Q ⟨i, e, q⟩ => ?_
        refine ⟨_, e, 10, 18, rfl, rfl, ⟨by decide, by decide, by decide⟩, i, 10 ^ (18 : Int).toNat, rfl, rfl, _, rfl, ?_⟩
        by_cases hi : (10 : Int) ^ 18 ≤ i
        · rw [if_pos hi] at q
          have : decide ((10 : Int) ^ (18 : Int).toNat ≤ i) = true := decide_eq_true hi
          simp only [this, if_true]
          exact ⟨_, e, q⟩
        · rw [if_neg hi] at q
          have : decide ((10 : Int) ^ (18 : Int).toNat ≤ i) = false := decide_eq_false hi
          simp only [this, Bool.false_eq_true, if_false]
          exact ⟨_, rfl, q⟩
      · cases h2
    · cases h
  · cases h
end
def lfI (c : Int) : Int := if 10 ^ 18 ≤ c then c else 0
theorem bgL {X : Cx} {k : Nat} (ok : MOk false k bgN X) (calm : X.calm = true) {ast : Expr} (h : bgLB X.env.scope ast = true) :
    PE X ast (fun σ H Q => ∃ (p : Addr) (cs : List Int), σ[1]? = some (some (.ref p)) ∧ σ.length = 3 ∧ H p = some (.lst (cs.map V.int)) ∧ cs.length ≤ sizeLine ∧ ∀ D, H D = none → Q (.ref D) (upd H D (.lst ((cs.map lfI).map V.int)))) := by
  unfold bgLB at h
  split at h
  · rename_i x t i scope hv
    obtain ⟨p, rfl⟩ := vLc_inv hv
    simp only [Bool.and_eq_true, Bool.not_eq_true'] at h
    obtain ⟨⟨⟨⟨h1, h2⟩, h3⟩, h4⟩, h5⟩ := h
    cases t <;> try (simp only [tgB] at h2; cases h2; done)
    rename_i y py
    simp only [tgB, Bool.and_eq_true, decide_eq_true_eq] at h2
    refine PE.weak (pe_lc (own := ownOf bgN [2]) calm (by rw [ok.eN]; exact ok.nd) (pi_seq (jE ok (.v 1) i h3)) (by rw [ok.eN]; exact blkOk_by h1)
      (fun s H C cl fp => pg_name (i := 2) (X := X.blk s H scope (compEnvC scope cl C X.env) fp) (by rw [ok.eN]; exact ok.nd) (by rw [ok.eN]; exact h2.2) (blkT_ok (X := X) y h2.1).1 (blkT_ok (X := X) y h2.1).2)
      (fun s H C cl fp => pts_nil) (fun s H C cl fp => bgE (X := X.blk s H scope (compEnvC scope cl C X.env) fp) (k := k) ⟨ok.eN, ok.nd, (fun _ _ ⟨_, _, _, _, _, _, _, _, _, _, _, _, _, _, _, _, z⟩ => z.elim), ok.quiet, ok.room, ok.blt, (fun z => nomatch z)⟩ h5)
      (fun z => by cases i <;> first | rfl | cases h4)) fun σ H Q ⟨p, cs, e1, el, e2, e3, q⟩ => ?_
    refine ⟨_, e1, p, _, rfl, .inl ⟨SqL.of e2, fun D hD => ?_⟩⟩
    have hpD : p ≠ D := ne_of_none e2 hD
    refine lc_list (g := gName 2) (tt := tYes) (te := bgT) (vs := (ownOf bgN [2]).map (·.2)) (σ := σ) (K := X.K) (a := p) (xs := cs.map V.int) (H1 := H) (D := D) (Qd := fun H' => Q (.ref D) H') (fun n H' => H' = upd H D (.lst (((cs.take n).map lfI).map V.int))) rfl (fun n H' hn e => ?_) (fun n x H' hx e => ?_) (fun H' e => ?_)
    · subst e
      exact SqL.of (by rw [upd_ne hpD]; exact e2)
    · subst e
      rw [List.getElem?_map] at hx
      cases hc : cs[n]? with
      | none => rw [hc] at hx; cases hx
      | some c =>
        rw [hc] at hx
        cases hx
        have hn : n < cs.length := (List.getElem?_eq_some_iff.mp hc).1
        refine ⟨(wipe_set (show (2 : Nat) ∈ [2] from List.mem_singleton.mpr rfl)).trans (wipe_wipe [2] [2] fun _ h => h), ?_⟩
        unfold tYes
        simp only [if_true]
        refine ⟨c, List.getElem?_set_self (by rw [wipe_length]; omega), _, upd_same, ?_, ?_⟩
        · simp only [List.length_map, List.length_take]; omega
        · rw [upd_upd]
          congr 2
          rw [← List.take_append_getElem hn, List.map_append, List.map_append]
          rw [List.getElem?_eq_getElem hn] at hc
          rw [Option.some.inj hc]
          rfl
    · subst e
      rw [List.length_map, List.take_length]
      exact q D hD
  · cases h
theorem dp_ints {K : PySem.W.Frag} {H : Hp} : ∀ ns : List Int, DpAll K H (ns.map V.int) (ns.map .int)
  | [] => .nil
  | n :: ns => .cons (.int n) (dp_ints ns)
theorem lay_ints : ∀ ns : List Int, PyData.canLayAll0 (ns.map .int) = true
  | [] => rfl
  | n :: ns => by
    show (PyData.canLay0 (.int n) && PyData.canLayAll0 (ns.map .int)) = true
    rw [lay_ints ns]; rfl
theorem depth_ints : ∀ ns : List Int, PyData.depthAll (ns.map .int) ≤ 1
  | [] => by simp [PyData.depthAll]
  | n :: ns => by
    have := depth_ints ns
    rw [List.map_cons, PyData.depthAll]
    simp [PyData.depth]
    omega
theorem shaped_ints (ns : List Int) : SeqAt.shaped (.list (ns.map .int)) = true := by
  unfold SeqAt.shaped
  rw [Bool.and_eq_true]
  refine ⟨lay_ints ns, decide_eq_true ?_⟩
  have := depth_ints ns
  rw [PyData.depth]
  omega
theorem eqv_nil (ns : List Int) : PyData.eqv (.list (ns.map .int)) (.list []) = decide (ns = []) := by
  cases ns with
  | nil => rfl
  | cons n ns => rfl
theorem merge_st (a b c d : V) : mergeK [] [(.inr "cells", a), (.inr "lefts", b), (.inr "at", c), (.inr "room", d)] = [(.inr "cells", a), (.inr "lefts", b), (.inr "at", c), (.inr "room", d)] := by
  unfold mergeK
  have s5 : Str.ofString "cells" ≠ Str.ofString "room" := by decide +kernel
  have s6 : Str.ofString "lefts" ≠ Str.ofString "room" := by decide +kernel
  have s7 : Str.ofString "at" ≠ Str.ofString "room" := by decide +kernel
  simp [putK, sd1, sd2, sd3, sd4, s5, s6, s7]
section
variable {P : Program} {w : World} {K : PySem.W.Frag} {mg : Str → Option Value} {base : Heap}
theorem fn_begin {cls : Nat → Addr} {qual : Str} {st : Stmt} {fa : Addr} {fd : FuncData} (FF : Fun K "_law_begin" qual st fa fd) (sc : FnScope bgN ["_law_script"] (defScope st)) (blt : ∀ x ∈ bltNames, mg x = none) (hb : beginB (defScope st) (defBody st) = true) :
    FnG P w K mg base 3 fa fd ["_law_script"] (spB K cls) := by
  refine fn_g FF sc (fun vs H Q E ⟨a, ns, e, _⟩ => by subst e; rfl) fun cdv A outer s H vs Q E room quiet ⟨a, ns, e, hs, hl, q⟩ => ?_
  subst e
  generalize eb : defBody st = body at hb ⊢
  unfold beginB at hb
  split at hb
  · rename_i s1 s2
    rw [Bool.and_eq_true] at hb
    obtain ⟨b1, b2⟩ := hb
    have mo : MOk false 2 bgN (cxOf (L2.CX P w) P w K mg base bgN qual (defScope st) fa cdv A outer s H E) := MOk.frame sc room quiet blt (fun z => nomatch z)
    have p1 : PS (cxOf (L2.CX P w) P w K mg base bgN qual (defScope st) fa cdv A outer s H E) s1 (fun D σ H1 => ∃ a, σ[0]? = some (some (.ref a)) ∧ SqL K H1 a (ns.map V.int) ∧ ∀ q p, H1 q = none → p ≠ q → H1 p = none → D.nx (σ.set 1 (some (.ref p))) (upd (upd H1 q (.lst [])) p (.lst ((if ns = [] then [0] else ns).map V.int)))) := by
      unfold bg1B at b1
      split at b1
      · rename_i x e hv
        obtain ⟨px, pos, rfl⟩ := vAsgN_inv hv
        simp only [Bool.and_eq_true, decide_eq_true_eq] at b1
        obtain ⟨⟨c1, c2⟩, c3⟩ := b1
        split at c3
        · rename_i c a' b' hi
          obtain ⟨pi, rfl⟩ := vIfE_inv hi
          split at c3
          · rename_i l r f y z h1 h2 h3
            obtain ⟨pc, rfl⟩ := vCmp1_inv h1
            obtain ⟨pf, pos2, rfl⟩ := vCall1_inv h2
            obtain ⟨pl, rfl⟩ := vLst_inv h3
            simp only [Bool.and_eq_true, decide_eq_true_eq, Bool.not_eq_true'] at c3
            obtain ⟨⟨⟨⟨⟨⟨⟨d1, d2⟩, rfl⟩, d4⟩, d5⟩, d6⟩, d7⟩, d8⟩ := c3
            split at d2
            · rename_i h4
              obtain ⟨pr, rfl⟩ := vLst_inv h4
              refine PS.weak (ps_set (i := 1) sc.nd c2 (loc_of c1) (pe_ifExp (pt_cmpR (op_neD (by have := mo.room.un; omega)) (jE mo (.v 0) l d1) (pe_lst pa_nil) rfl) (pe_callTy call_list_of (gl_of d4) (blt _ (by simp [bltNames])) (by decide +kernel) (pa_cons (jE mo (.v 0) y d6) pa_nil (star_cons d5 _ _)) (by decide) (by decide) (star_cons d5 _ _) rfl) (pe_lst (pa_cons (jE mo (.n 0) z d8) pa_nil (star_cons d7 _ _)))) rfl (.inl rfl)) fun D σ H1 ⟨a, e1, e2, q1⟩ => ?_
              refine ⟨_, e1, by show 0 ≤ sizeLine; omega, fun q hq => ?_⟩
              have e2' : SqL K (upd H1 q (.lst [])) a (ns.map V.int) := by
                rcases e2 with (e2 | ⟨o, e2⟩) | e2
                · exact .inl (.inl (by rw [upd_ne (ne_of_none e2 hq)]; exact e2))
                · exact .inl (.inr ⟨o, by rw [upd_ne (ne_of_none e2 hq)]; exact e2⟩)
                · exact .inr e2
              refine ⟨_, _, .lst e2' (dp_ints ns), .lst (ds := []) (SqL.of upd_same) .nil, shaped_ints ns, rfl, _, rfl, ?_⟩
              rw [eqv_nil]
              by_cases hns : ns = []
              · have : (!decide (ns = [])) = false := by simp [hns]
                simp only [this, Bool.false_eq_true, if_false]
                refine ⟨_, rfl, by show 1 ≤ sizeLine; rw [sizeLine_eq]; decide, fun p hp => ?_⟩
                have npq : p ≠ q := fun z => by rw [z, upd_same] at hp; cases hp
                have := q1 q p hq npq (by rw [upd_ne npq] at hp; exact hp)
                rw [if_pos hns] at this
                exact this
              · have : (!decide (ns = [])) = true := by simp [hns]
                simp only [this, if_true]
                refine ⟨_, e1, a, _, rfl, .inl e2', fun p hp => ?_⟩
                have npq : p ≠ q := fun z => by rw [z, upd_same] at hp; cases hp
                have := q1 q p hq npq (by rw [upd_ne npq] at hp; exact hp)
                rw [if_neg hns] at this
                exact this
            · cases d2
          · cases c3
        · cases c3
      · cases b1
    have p2 : PS (cxOf (L2.CX P w) P w K mg base bgN qual (defScope st) fa cdv A outer s H E) s2 (fun D σ H1 => ∃ (p : Addr) (cs : List Int), σ[1]? = some (some (.ref p)) ∧ σ.length = 3 ∧ H1 p = some (.lst (cs.map V.int)) ∧ cs.length ≤ sizeLine ∧ 0 < cs.length ∧ ∀ (C : Ctx) (H' : Hp), C.K = K → C.cls = cls → (∀ b o, H1 b = some o → H' b = some o) → SI C H' 0 → D.rt (.ref C.st) H') := by
      unfold bg2B at b2
      split at b2
      · rename_i e hr
        obtain ⟨pr, rfl⟩ := vRet_inv hr
        split at b2
        · rename_i k1 k2 k3 k4 v1 v2 v3 v4 hd
          obtain ⟨pd, rfl⟩ := vDic_inv hd
          simp only [Bool.and_eq_true] at b2
          obtain ⟨⟨⟨⟨⟨⟨⟨c1, c2⟩, c3⟩, c4⟩, c5⟩, c6⟩, c7⟩, c8⟩ := b2
          obtain ⟨_, _, rfl⟩ := str_inv c1
          obtain ⟨_, _, rfl⟩ := str_inv c2
          obtain ⟨_, _, rfl⟩ := str_inv c3
          obtain ⟨_, _, rfl⟩ := str_inv c4
          refine PS.weak (ps_ret (pe_disp (pps_cons pe_str (jE mo (.v 1) v1 c5) (pps_cons pe_str (bgL mo rfl c6) (pps_cons pe_str (jE mo (.n 0) v3 c7) (pps_cons pe_str (jE mo (.n 0) v4 c8) pps_nil)))) rfl rfl (by simp) (by show 4 ≤ 15; omega))) fun D σ H1 ⟨p, cs, e1, e2, e3, e4, e5, q1⟩ => ?_
          intro d hd0
          have npd : p ≠ d := ne_of_none e3 hd0
          refine ⟨_, e1, p, cs, e1, e2, by rw [upd_ne npd]; exact e3, e4, fun L hL => ⟨_, rfl, _, rfl, ?_⟩⟩
          have nLd : L ≠ d := fun z => by rw [z, upd_same] at hL; cases hL
          have hL1 : H1 L = none := by rw [upd_ne nLd] at hL; exact hL
          have npL : p ≠ L := ne_of_none e3 hL1
          refine ⟨by rw [upd_ne (Ne.symm nLd), upd_same], [(.inr "cells", .ref p), (.inr "lefts", .ref L), (.inr "at", .int 0), (.inr "room", .int 0)], rfl, by show 4 ≤ 15; omega, ?_⟩
          rw [merge_st]
          refine q1 ⟨K, d, L, p, cls⟩ _ rfl rfl (fun b o eb => ?_) ⟨upd_same, ⟨cs.map lfI, ?_, cs, ?_, by rw [List.length_map], e5⟩, Ne.symm npL⟩
          · rw [upd_ne (ne_of_none eb hd0), upd_ne (ne_of_none eb hL1), upd_ne (ne_of_none eb hd0)]; exact eb
          · rw [upd_ne nLd, upd_same]
          · rw [upd_ne npd, upd_ne npL, upd_ne npd]; exact e3
        · cases b2
      · cases b2
    refine ⟨_, pss_cons p1 (pss_one p2), a, rfl, hs, fun q0 p h1 h2 h3 => ?_⟩
    refine ⟨p, _, rfl, rfl, upd_same, ?_, ?_, fun C H' c1 c2 c3 c4 => q C H' c1 c2 (fun b o e => c3 b o ?_) c4⟩
    · split
      · show 1 ≤ sizeLine; rw [sizeLine_eq]; decide
      · rw [sizeLine_eq]; omega
    · split
      · decide
      · rename_i h; exact List.length_pos_iff.mpr h
    · rw [upd_ne (ne_of_none e h3), upd_ne (ne_of_none e h1)]; exact e
  · cases hb
end
end NC

set_option Elab.async false
set_option linter.all false
set_option maxRecDepth 100000
set_option maxHeartbeats 4000000
namespace NC
open PySem PySem.Spec PyProof.Rows L2
/-! ### the law itself -/
def law0B (N : List Str) (sc : Scope) (s : Stmt) : Bool := match vAsgN s with
  | some (x, e) => locB sc x && decide (N[1]? = some x) && (match vCall1 e with
    | some (f, y) => decide (f = "_law_begin") && glB sc f && !starB y && cJ N sc (.v 0) y
    | none => false)
  | none => false
def lawB (Γ : Gam) (N : List Str) (sc : Scope) (body : Ss) : List Stmt → Bool
  | s :: r => law0B N sc s && cSs Γ N sc body r
  | [] => false
def lawEnv (n ns : Nat) : Env := .sh (.scr n) :: .sh .sta :: List.replicate (ns - 2) .un
/-- what is to be shown of the law in plain Lean -/
def LawOk (Φ : Calls) (sub : Nat → Nat → Bool) (body : Ss) (ns most : Nat) : Prop := ∀ n, n ≤ most → wSs Φ sub body (lawEnv n ns) 0 { nx := fun _ _ => False, rt := fun r _ => r = .d (.bool true) } (fun _ _ _ _ => False)
def spL (K : PySem.W.Frag) (most : Nat) : Sp := fun vs H Q _ => ∃ (a : Addr) (xs : List Int), vs = [.ref a] ∧ Only H ∧ SqL K H a (xs.map V.int) ∧ xs.length ≤ most ∧ ∀ H', Q (.bl true) H'
section
variable {Γ : Gam} {Φ : Calls} {sub : Nat → Nat → Bool} {P : Program} {w : World} {K : PySem.W.Frag} {mg : Str → Option Value} {base : Heap} {cls : Nat → Addr}
theorem fn_law (hΦ : CMono Φ) {k most : Nat} {body : Ss} {x qual : Str} {st : Stmt} {fa : Addr} {fd : FuncData} {N : List Str} (G : ∀ C : Ctx, C.K = K → C.cls = cls → GOk Γ C Φ sub k P w mg base) (two : 3 ≤ k) (sys : KSys base) (FF : Fun K x qual st fa fd) (sc : FnScope N ["_law_script"] (defScope st)) (hN : 2 ≤ N.length) (blt : ∀ x ∈ bltNames, mg x = none)
    (bg : ∃ a fd, mg "_law_begin" = some (.ref a) ∧ PySem.W.keepIn K (.ref a) = true ∧ Binds K fd ["_law_script"] [] ∧ FnG P w K mg base 3 a fd ["_law_script"] (spB K cls)) (hb : lawB Γ N (defScope st) body (defBody st) = true) (hm : most < 16777216) (L : LawOk Φ sub body N.length most) :
    FnG P w K mg base (k + 1) fa fd ["_law_script"] (spL K most) := by
  refine fn_g FF sc (fun vs H Q E ⟨a, xs, e, _⟩ => by subst e; rfl) fun cdv A outer s H vs Q E room quiet ⟨a, xs, e, hO, hs, hl, q⟩ => ?_
  subst e
  generalize eb : defBody st = bd at hb ⊢
  unfold lawB at hb
  split at hb
  · rename_i s0 rest
    rw [Bool.and_eq_true] at hb
    obtain ⟨b1, b2⟩ := hb
    have tk : Takes (cxOf (L2.CX P w) P w K mg base N qual (defScope st) fa cdv A outer s H E) (fun cls d _ H' => E cls d H') := takes_of (X := cxOf (L2.CX P w) P w K mg base N qual (defScope st) fa cdv A outer s H E) (E := E) rfl rfl rfl rfl
    have mo : MOk false k N (cxOf (L2.CX P w) P w K mg base N qual (defScope st) fa cdv A outer s H E) := MOk.frame sc room quiet blt (fun z => nomatch z)
    have p0 : PS (cxOf (L2.CX P w) P w K mg base N qual (defScope st) fa cdv A outer s H E) s0 (fun D σ H1 => ∃ (a : Addr) (ns : List Int), σ[0]? = some (some (.ref a)) ∧ SqL K H1 a (ns.map V.int) ∧ ns.length < 16777216 ∧ ∀ (C : Ctx) (H' : Hp), C.K = K → C.cls = cls → (∀ b o, H1 b = some o → H' b = some o) → SI C H' 0 → D.nx (σ.set 1 (some (.ref C.st))) H') := by
      unfold law0B at b1
      split at b1
      · rename_i x e hv
        obtain ⟨px, pos, rfl⟩ := vAsgN_inv hv
        simp only [Bool.and_eq_true, decide_eq_true_eq] at b1
        obtain ⟨⟨c1, c2⟩, c3⟩ := b1
        split at c3
        · rename_i f y hc
          obtain ⟨pf, pos2, rfl⟩ := vCall1_inv hc
          simp only [Bool.and_eq_true, decide_eq_true_eq, Bool.not_eq_true'] at c3
          obtain ⟨⟨⟨rfl, d1⟩, d2⟩, d3⟩ := c3
          obtain ⟨ab, fdb, m1, m2, m3, FG⟩ := bg
          refine PS.weak (ps_set (i := 1) sc.nd c2 (loc_of c1) (pe_g1 (FG.mono two) room quiet m3 tk (gl_of d1) m1 m2 (by decide +kernel) (pa_cons (jE mo (.v 0) y d3) pa_nil (star_cons d2 _ _)) (star_cons d2 _ _) rfl) rfl (.inl rfl)) fun D σ H1 ⟨a, ns, e1, e2, e3, q1⟩ => ?_
          exact ⟨_, e1, a, ns, rfl, e2, e3, q1⟩
        · cases c3
      · cases b1
    have p1 : PSs (cxOf (L2.CX P w) P w K mg base N qual (defScope st) fa cdv A outer s H E) rest (fun D σ H1 => ∃ (C : Ctx) (F0 : Fz), C.K = K ∧ C.cls = cls ∧ tS { C := C, H0 := H1, F0 := F0, W := fun cls d _ H' => E cls d H' } (wSs Φ sub body) D σ H1) := by
      refine ⟨fun pins s1 σ H1 D I ⟨C, F0, e1, e2, w1⟩ => ?_⟩
      subst e1
      exact (sSs (sub := sub) hΦ body _ rest { C := C, H0 := H1, F0 := F0, W := fun cls d _ H' => E cls d H' } _ (SOk.frame (G C rfl e2) sc (by omega) sys room quiet) rfl b2).run pins s1 σ H1 D I w1
    refine ⟨_, pss_cons p0 p1, a, xs, rfl, hs, by omega, fun C H' c1 c2 c3 c4 => ⟨C, fun _ => False, c1, c2, ?_⟩⟩
    refine ⟨lawEnv xs.length N.length, fun _ => False, 0, ?_, ?_⟩
    · have fo : FOk C (fun _ => False) H' 0 := ⟨fun _ z => z.elim, fun _ z => z.elim, c4⟩
      have rv : RV C (fun _ => False) H' (.ref a) (.scr xs.length) := by
        refine ⟨a, _, rfl, ?_, List.length_map (f := V.int)⟩
        rcases hs with (h | ⟨o, h⟩) | h
        · rcases hO a with z | ⟨o, ys, z⟩
          · rw [h] at z; cases z
          · rw [h] at z; cases z
        · exact .inl ⟨o, c3 _ _ h⟩
        · rw [c1]; exact .inr (.inr h)
      have B0 := BI.start (N := N) (np := 1) (ns := N.length) (ds := [.scr xs.length]) fo (.cons rv .nil) rfl rfl
      have B1 := B0.store (i := 1) (x := .ref C.st) (v := .sta) (by unfold L2.start; simp only [List.length_append, List.length_map, List.length_replicate, List.length_singleton]; omega) (show V.ref C.st = .ref C.st from rfl)
      have e : ((([VD.scr xs.length].map Sl.sh) ++ List.replicate (N.length - 1) Sl.un).set 1 (.sh .sta)) = lawEnv xs.length N.length := by
        obtain ⟨m, hm⟩ : ∃ m, N.length = m + 2 := ⟨N.length - 2, by omega⟩
        rw [hm]
        rfl
      rw [e] at B1
      exact B1
    · refine wSs_mono hΦ body _ _ { nx := fun _ _ => False, rt := fun r _ => r = .d (.bool true) } _ (fun _ _ _ _ => False) _ ⟨fun _ _ z => z.elim, fun r g' e v H2 F2 _ rv => ?_, fun _ _ z => z.elim, fun _ _ z => z.elim⟩ (fun _ _ _ _ z => z.elim) (L xs.length hl)
      subst e
      cases (show RP C.K F2 H2 v (.bool true) from rv)
      exact q H2
  · cases hb
end
/-! ### the end -/
theorem nc_call {P : Program} {w : World} {K : PySem.W.Frag} {mg mb : Str → Option Value} {k most : Nat} {fa a : Addr} {fd : FuncData} {x : Str} {s₁ : Shared} {vs : List Value} {ns : List Int}
    (kin : K.In s₁.heap) (hns : s₁.heap.Ns mainGlobals mg) (hb : s₁.heap.Ns builtinsNs mb) (hbb : ∀ x : Str, x ≠ "__name__" → mb x = bootBuiltins x) (hlim : s₁.heap.NoLimit) (hg : s₁.gens = #[])
    (ha : s₁.heap.get? a = some { cls := .type "list", data := .seq vs.toArray }) (hi : IntsAre vs ns) (hl : ns.length ≤ most) (hm : most ≤ 16777216) (hr : Room k callerA)
    (hsys : ∃ o, s₁.heap.get? sysModules = some o ∧ o.cls = .type "dict") (F : ∀ base : Heap, K.In base → base.Ns mainGlobals mg → KSys base → FnG P w K mg base k fa fd [x] (spL K most)) (hbind : ∀ (s : Shared) (u : Value), BindsTo s fd ⟨[u], []⟩ [(x, u)]) :
    codeAny (model P w) callerA (.call (.ref fa) ⟨[.ref a], []⟩) (fun r s' => r = .ok (.ret (.bool true)) ∧ OldK s₁.heap s'.heap ∧ s'.os = s₁.os ∧ AllBare s'.gens) s₁ := by
  have rels := vals_ints hi
  have hz : ns.length ≤ sizeLine := by rw [sizeLine_eq]; omega
  have core : ∀ H : Hp, Only H → SqL K H a (ns.map V.int) → HOk P w H s₁.heap → (∀ b, H b ≠ none → b = a) → (H a ≠ none → K.lookup a = none) →
      codeAny (model P w) callerA (.call (.ref fa) ⟨[.ref a], []⟩) (fun r s' => r = .ok (.ret (.bool true)) ∧ OldK s₁.heap s'.heap ∧ s'.os = s₁.os ∧ AllBare s'.gens) s₁ := by
    intro H only sq hok only' notK
    have inBase : ∀ {b : Addr} {o : Obj}, s₁.heap.get? b = some o → H b = none → (hidT s₁.heap H).get? b = some o := fun e n => hidT_get e n
    have dictFree : ∀ {b : Addr} {o : Obj} {es : Array DictEntry} {ep : Nat}, s₁.heap.get? b = some o → o.data = .dict es ep → H b = none := fun {b o es ep} e d => by
      cases z : H b with
      | none => rfl
      | some u =>
        obtain rfl : b = a := only' b (by rw [z]; simp)
        rw [ha] at e; cases e
        cases (show Data.seq vs.toArray _ = Data.dict es ep from d)
    have nsB : ∀ {b : Addr} {m : Str → Option Value}, s₁.heap.Ns b m → (hidT s₁.heap H).Ns b m := fun {b m} ⟨o, es, ep, e, d, r⟩ => ⟨o, es, ep, inBase e (dictFree e d), d, r⟩
    have kB : K.In (hidT s₁.heap H) := fun b o e => inBase (kin b o e) (by
      cases z : H b with
      | none => rfl
      | some u =>
        obtain rfl : b = a := only' b (by rw [z]; simp)
        rw [notK (by rw [z]; simp)] at e; cases e)
    have modB : Mod K mg (hidT s₁.heap H) := ⟨kB, nsB hns, ⟨mb, nsB hb, hbb⟩, let ⟨mc, h1, h2⟩ := hlim; ⟨mc, nsB h1, h2⟩⟩
    have e0 : Env0 P w K mg (hidT s₁.heap H) callerA [] s₁ H := ⟨rfl, modB, fun b o e => of_hidT e, Nat.le_of_eq (hidT_size _ _), trivial, fun b hb => absurd (show b ∈ ([] : List Addr) from hb) (by simp), hok, .of_eq hg⟩
    have sB : KSys (hidT s₁.heap H) := by
      obtain ⟨o, e1, e2⟩ := hsys
      refine ⟨o, inBase e1 ?_, e2⟩
      cases z : H sysModules with
      | none => rfl
      | some u =>
        have e3 := only' sysModules (by rw [z]; simp)
        rw [e3, ha] at e1; cases e1
        exact absurd (Value.type.inj e2) (by decide)
    refine codeAny_mono ((F _ kB (nsB hns) sB).run callerA [] s₁ H [.ref a] [.ref a] (fun v _ => v = .bl true) (fun _ _ _ => False) hr rfl e0 (hbind s₁ (.ref a)) (.cons rfl .nil) ⟨a, ns, rfl, only, sq, hl, fun _ => rfl⟩) fun r s' h => ?_
    cases r with
    | error e => obtain ⟨_, _, _, _, _, _, _, _, _, _, _, _, z⟩ := h; exact z.elim
    | ok fl =>
      cases fl with
      | next => exact False.elim h
      | brk => exact False.elim h
      | cont => exact False.elim h
      | ret u =>
        obtain ⟨v, H', os, bare, un, hok', r', q⟩ := h
        obtain rfl : v = .bl true := q
        obtain rfl : u = Value.bool true := r'
        refine ⟨rfl, OldK.of_keep fun b o e => ?_, os, bare⟩
        cases z : H b with
        | none => exact un.keep b o e z (by intro y; exact absurd (show b ∈ ([] : List Addr) from y) (by simp)) (by simp)
        | some u =>
          rcases only b with y | ⟨ob, xs, y⟩
          · rw [z] at y; cases y
          · obtain ⟨e1, _⟩ := hok b _ y
            obtain ⟨e2, _⟩ := hok' b _ (un.frzs b ob _ y)
            rw [e] at e1; cases e1
            exact e2
  cases hk : K.lookup a with
  | some o =>
    have e := kin a o hk
    rw [ha] at e
    cases e
    refine core (fun _ => none) (fun _ => .inl rfl) (.inr ⟨_, vs.toArray, _, hk, rfl, rfl, rfl, by rw [List.size_toArray, hi.length]; exact hz, by simpa using rels⟩) (fun b u z => by cases (show (none : Option HO) = some u from z)) (fun b z => absurd rfl z) fun z => absurd rfl z
  | none =>
    refine core (fun b => if b = a then some (.frz { cls := .type "list", data := .seq vs.toArray } (.lst (ns.map V.int))) else none) (fun b => ?_) (.inl (.inr ⟨{ cls := .type "list", data := .seq vs.toArray }, if_pos rfl⟩)) (fun b u z => ?_) (fun b z => ?_) fun _ => hk
    · by_cases hb : b = a
      · exact .inr ⟨_, _, if_pos hb⟩
      · exact .inl (if_neg hb)
    · by_cases hb : b = a
      · cases (if_pos hb).symm.trans z
        subst hb
        exact ⟨ha, by rw [List.length_map]; exact hz, vs, _, rels, ha⟩
      · cases (if_neg hb).symm.trans z
    · by_cases hb : b = a
      · exact hb
      · exact absurd (if_neg hb) z
theorem nc_walk {l : PySem.W.OpenLaw} {n k : Nat} {q : Program} {loose : List Str} {XP : (Str → Option Value) → Heap → Prop} {YP : World → Heap → Prop} {d : DefRec} {x : Str}
    (hn : l.most = some n) (hn2 : n ≤ 16777216) (hdf : d.params.defaults = []) (hr : Room k callerA)
    (F : ∀ (w : World) (mg : Str → Option Value) (fa : Addr) (h : Heap), YP w h → h.Ns mainGlobals mg → mg d.name = some (.ref fa) →
      ∃ (K : PySem.W.Frag) (fd : FuncData), K.In h ∧ (∃ o, h.get? sysModules = some o ∧ o.cls = .type "dict") ∧ (∀ (s : Shared) (u : Value), BindsTo s fd ⟨[u], []⟩ [(x, u)]) ∧ ∀ base : Heap, K.In base → base.Ns mainGlobals mg → KSys base → FnG l.prog w K mg base k fa fd [x] (spL K n)) :
    PySem.W.WalkO q loose XP YP l.row.toRowW d [] (fun f vs => PySem.call f vs) := by
  refine Att.attach_call hn hdf fun w s₀ s₁ mg mb fa o pm cd doc a vs ns G Y ho hd hcd hmg hobj hints hlen hg => ?_
  obtain ⟨K, fd, kin, hsys, bd, FF⟩ := F w mg fa _ Y G.T.g hmg
  exact nc_call kin G.T.g G.T.b G.T.builtins G.T.nolimit hg hobj hints hlen hn2 hr hsys FF bd
end NC

set_option Elab.async false
set_option linter.all false
set_option maxRecDepth 100000
set_option maxHeartbeats 4000000
namespace NC
open PySem PySem.Spec PyProof.Rows L2
/-! ### the own errors' __init__ -/
/-- what the base error's class must say -/
structure CutC (K : PySem.W.Frag) (C : Addr) : Prop where
  sg : PySem.W.specialIn K (.ref C) "__getattribute__" = some (some (.builtin "type.__getattribute__"))
  ty : PySem.W.typeIn K (.ref C) = some (.type "type")
  rd : PySem.W.readsIn K C (.type "type") = true
  fc : PySem.W.findCls K (.ref C) (.type "type") "__init__" = some (.val (.builtin "ValueError.__init__"))
section
variable {X : Cx} {e : Expr} {es : List Expr} {ta : TA} {p1 p2 pos : Pos} {x : Str} {C0 : Addr}
theorem pe_cutinit {pl : Sem Bool} (T : CutC X.K C0) (hg : Gl X x) (hm : X.mg x = some (.ref C0)) (hd : (x == ("__debug__" : Str)) = false) (ha : PA X (e :: es) ta)
    (hc : eval (.Call (.Attribute (.Name x p1) "__init__" p2) (e :: es) [] pos) X.env = (do
      let ov ← eval (.Name x p1) X.env
      standAt p2.atName
      let (f, first) ← holding [ov] (getMethod ov "__init__" pl)
      callWith pos f first (backTo pos (starEach (e :: es) X.env)) (backToKw pos (keywordEach [] X.env))))
    (he : starEach (e :: es) X.env = (false, eval e X.env) :: starEach es X.env) (hpl : (backTo pos (starEach es X.env)).any (·.1) = false) :
    PE X (.Call (.Attribute (.Name x p1) "__init__" p2) (e :: es) [] pos) (tVeI X.K ta) := by
  refine ⟨fun pins s σ H Q I h => ?_⟩
  refine PySem.W.methodCall_KW (ld_glob I hg hm ?_ hd) hc
  obtain ⟨m, fr⟩ := I.fr
  refine PySem.W.method_of_cls fr I.ok.mod.kin T.sg (PySem.W.cls_val fr I.ok.mod.kin T.ty T.rd T.fc (by decide +kernel) ?_)
  show wpAny _ _ (callWith pos (Value.builtin "ValueError.__init__") [] (backTo pos (starEach (e :: es) X.env)) []) _ _ _
  refine PyProof.Rows.callWith_method1 (thn (ha.run pos pins _ σ H _ (I.tok _) h) fun us s1 ⟨vs, H1, I1, r1, a, C, ws, ev, hl, T, ea, q⟩ => ?_) he hpl
  subst ev
  cases r1 with
  | @cons _ u0 _ ur ra rw' =>
    obtain rfl : u0 = Value.ref a := ra
    exact oinit_ok T I1 ea (by rw [← Paired.length rw', sizeLine_eq]; omega) fun s' J => ⟨.non, H1, J, rfl, q⟩
end
/-- self.f = v -/
def vAsgA : Stmt → Option (Str × Str × Expr)
  | .Assign [.Attribute (.Name s _) f _] e _ => some (s, f, e)
  | _ => none
theorem vAsgA_inv {s : Stmt} {y f : Str} {e : Expr} (h : vAsgA s = some (y, f, e)) : ∃ p q pos, s = .Assign [.Attribute (.Name y p) f q] e pos := by
  unfold vAsgA at h; split at h
  · cases h; exact ⟨_, _, _, rfl⟩
  · cases h
/-- Base.__init__(self, 'text') -/
def vIni : Stmt → Option (Str × Str × Expr × Const × Bool)
  | .Expr (.Call (.Attribute (.Name b _) m apos) [e, .Constant c _ _] [] cpos) _ => some (b, m, e, c, apos.endLine == cpos.line)
  | _ => none
theorem vIni_inv {s : Stmt} {b m : Str} {e : Expr} {c : Const} {l : Bool} (h : vIni s = some (b, m, e, c, l)) : ∃ p q u v pos pos', s = .Expr (.Call (.Attribute (.Name b p) m q) [e, .Constant c u v] [] pos) pos' ∧ (q.endLine == pos.line) = l := by
  unfold vIni at h; split at h
  · cases h; exact ⟨_, _, _, _, _, _, rfl, rfl⟩
  · cases h
theorem call_line {x m : Str} {p1 apos pos : Pos} {e : Expr} {c : Const} {u : Nat} {v : Pos} {env : PySem.Env} (he : starB e = false) (hl : (apos.endLine == pos.line) = true) : eval (.Call (.Attribute (.Name x p1) m apos) [e, .Constant c u v] [] pos) env = (do
      let ov ← eval (.Name x p1) env
      standAt apos.atName
      let (f, first) ← holding [ov] (getMethod ov m (do return (← importBound (.Name x p1) env).getD true))
      callWith pos f first (backTo pos (starEach [e, .Constant c u v] env)) (backToKw pos (keywordEach [] env))) := by
  have e0 : eval (.Call (.Attribute (.Name x p1) m apos) [e, .Constant c u v] [] pos) env = (do
      let ov ← eval (.Name x p1) env
      standAt apos.atName
      methodCall (.Name x p1) m apos pos env ov 2 (backTo pos (starEach [e, .Constant c u v] env)) (backToKw pos (keywordEach [] env))) := rfl
  have e1 : methodCallForm 2 (backTo pos (starEach [e, .Constant c u v] env)) (backToKw pos (keywordEach [] env)) = true := by rw [star_cons he]; rfl
  rw [e0]
  unfold methodCall methodCallPos calleeOf
  rw [e1, hl]
  rfl
def isStr : Const → Bool
  | .str _ => true
  | _ => false
theorem var_inv {N : List Str} {sc : Scope} {i : Nat} {e : Expr} (h : cJ N sc (.v i) e = true) : ∃ x p, e = .Name x p ∧ visB sc x = true ∧ N[i]? = some x ∧ nmB x = true := by
  cases e <;> try (simp only [cJ] at h; cases h; done)
  simp only [cJ, Bool.and_eq_true, decide_eq_true_eq] at h
  exact ⟨_, _, rfl, h.1.1, h.1.2, h.2⟩
/-- the body of such an __init__ -/
def initB (N : List Str) (sc : Scope) (base f : Str) : List Stmt → Bool
  | [s1, s2] => (match vIni s1 with
      | some (b, m, e, c, l) => decide (b = base) && decide (m = "__init__") && glB sc b && nmB b && cJ N sc (.v 0) e && isStr c && l
      | none => false) && (match vAsgA s2 with
      | some (y, g, e) => visB sc y && decide (N[0]? = some y) && nmB y && decide (g = f) && cJ N sc (.v 1) e
      | none => false)
  | _ => false
section
variable {P : Program} {w : World} {K : PySem.W.Frag} {mg : Str → Option Value} {base : Heap}
theorem fn_init {qual x b f : Str} {st : Stmt} {fa C0 D : Addr} {fd : FuncData} {N ps : List Str} (FF : Fun K x qual st fa fd) (sc : FnScope N ps (defScope st)) (h2 : ps.length = 2) (hN : N.length = 2) (T0 : CutC K C0) (hm : mg b = some (.ref C0)) (T : OexC K D) (hno : PySem.W.findIn K (.ref D) f = some none)
    (blt : ∀ x ∈ bltNames, mg x = none) (hb : initB N (defScope st) b f (defBody st) = true) : FnOk P w K mg base (L2.CX P w) 1 fa fd ps (spI D f) := by
  refine Fun.okX (k := 0) (P := P) (w := w) FF sc (fun vs H Q E ⟨a, y, e, _⟩ => by subst e; exact h2.symm) fun cdv A outer s H vs Q E room ⟨a, y, e, ea, q⟩ => ?_
  subst e
  generalize eb : defBody st = body at hb ⊢
  unfold initB at hb
  split at hb
  · rename_i s1 s2
    rw [Bool.and_eq_true] at hb
    obtain ⟨b1, b2⟩ := hb
    split at b1
    · rename_i b' m e c l hv
      obtain ⟨p, q1, u, v, pos, pos', rfl, hl⟩ := vIni_inv hv
      simp only [Bool.and_eq_true, decide_eq_true_eq] at b1
      obtain ⟨⟨⟨⟨⟨⟨rfl, rfl⟩, c1⟩, c2⟩, c3⟩, c4⟩, c5⟩ := b1
      subst c5
      split at b2
      · rename_i y' g e2 hv2
        obtain ⟨p', q', pos2, rfl⟩ := vAsgA_inv hv2
        simp only [Bool.and_eq_true, decide_eq_true_eq] at b2
        obtain ⟨⟨⟨⟨d1, d2⟩, d3⟩, rfl⟩, d5⟩ := b2
        obtain ⟨x1, px1, rfl, v1, n1, m1⟩ := var_inv c3
        obtain ⟨x2, px2, rfl, v2, n2, m2⟩ := var_inv d5
        obtain ⟨k1, k2, _⟩ := nm_of m1
        obtain ⟨k3, k4, _⟩ := nm_of m2
        obtain ⟨k5, k6, _⟩ := nm_of d3
        cases c <;> try (cases c4; done)
        refine ⟨_, pss_cons (ps_expr (pe_cutinit T0 (gl_of (X := cxOf (L2.CX P w) P w K mg base N qual (defScope st) fa cdv A outer s H E) c1) hm (nm_of c2).1 (pa_cons (pe_var (i := 0) n1 (vis_of v1) k1 k2) (pa_cons pe_str pa_nil)) (call_line rfl hl) rfl rfl)) (pss_one (ps_ost (pe_var (i := 0) d2 (vis_of d1) k5 k6) (pe_var (i := 1) n2 (vis_of v2) k3 k4))), ?_⟩
        refine ⟨.ref a, rfl, a, D, [_], rfl, by show 1 ≤ 1000; omega, T, ea, ?_⟩
        exact ⟨y, rfl, .ref a, rfl, a, D, rfl, T, hno, .inl ⟨ea, fun dx h1 h3 => q dx h1 h3⟩⟩
      · cases b2
    · cases b1
  · cases hb
end
end NC

set_option Elab.async false
set_option linter.all false
set_option maxRecDepth 100000
set_option maxHeartbeats 4000000
namespace NC
open PySem PySem.Spec PyProof.Rows L2
/-! ### facts of the written part -/
def oexB (K : PySem.W.Frag) (C : Addr) : Bool := match K.lookup C with
  | some ⟨.type "type", _, .cls cd, sl⟩ => (match cd.mro, sl.toList with
    | .ref C' :: bm, [_, _, _, _, some (.builtin n), _] => C' == C && n == "ValueError.__new__" && !cd.hasDel && cd.hasDict && PySem.HandSPX.refsVE bm
    | _, _ => false)
  | _ => false
theorem oexB_ok {K : PySem.W.Frag} {C : Addr} (q : oexB K C = true) : ∃ nm q N bs bm sn sub ab col dd k0 k1 k2 k3 k5, K.lookup C = some (excClassObj nm q C N bs bm true sn sub ab col dd k0 k1 k2 k3 k5 "ValueError.__new__") ∧ PySem.HandSPX.refsVE bm = true := by
  unfold oexB at q
  split at q
  · rename_i dd cd sl ho
    split at q
    · rename_i C' bm k0 k1 k2 k3 n k5 hm hs
      simp only [Bool.and_eq_true, beq_iff_eq, Bool.not_eq_true'] at q
      obtain ⟨⟨⟨⟨rfl, rfl⟩, hdel⟩, hdict⟩, hr⟩ := q
      obtain ⟨nm, bs, mro, ns, qn, hd, sn, sub, ab, col, del⟩ := cd
      dsimp only at hm hdel hdict
      subst hm hdel hdict
      have hsl : sl = #[k0, k1, k2, k3, some (.builtin "ValueError.__new__"), k5] := by
        apply Array.ext'
        exact hs
      subst hsl
      exact ⟨nm, qn, ns, bs, bm, sn, sub, ab, col, dd, k0, k1, k2, k3, k5, ho, hr⟩
    · cases q
  · cases q
def excB (K : PySem.W.Frag) (D : Addr) : Bool := decide (PySem.W.findIn K (.ref D) "__getattribute__" = some (some (.builtin "BaseException.__getattribute__"))) && decide (PySem.W.findIn K (.ref D) "__getattr__" = some none) &&
  decide (PySem.W.subIn K (.ref D) (.type "BaseException") = some true) && PySem.W.hasDictIn K D && decide (PySem.W.findIn K (.ref D) "__class__" = some (some (.builtin "object.__class__"))) &&
  decide (PySem.W.specialIn K (.builtin "object.__class__") "__get__" = some (some (.builtin "getset_descriptor.__get__"))) && decide (PySem.W.takesIn K (.builtin "object.__class__") = some true) && decide (PySem.W.mroIn K D (.type "object") = some true)
theorem excB_ok {K : PySem.W.Frag} {D : Addr} (h : excB K D = true) : ExcC K D := by
  unfold excB at h
  simp only [Bool.and_eq_true, decide_eq_true_eq] at h
  obtain ⟨⟨⟨⟨⟨⟨⟨h1, h2⟩, h3⟩, h4⟩, h5⟩, h6⟩, h7⟩, h8⟩ := h
  exact ⟨h1, h2, h3, h4, h5, h6, h7, h8⟩
def rseB (K : PySem.W.Frag) (D : Addr) : Bool := oexB K D && decide (PySem.W.findIn K (.ref D) "__setattr__" = some (some (.builtin "object.__setattr__"))) && decide (PySem.W.subIn K (.ref D) (.type "BaseException") = some true) &&
  decide (PySem.W.typeIn K (.ref D) = some (.type "type")) && PySem.W.keepIn K (.ref D) && decide (PySem.W.findIn K (.ref D) "__init__" = some (some (.ref (He.ma K D "__init__")))) && decide (PySem.W.typeIn K (.ref (He.ma K D "__init__")) = some (.type "function"))
theorem rseB_ok {K : PySem.W.Frag} {D : Addr} (h : rseB K D = true) : OexC K D ∧ PySem.W.findIn K (.ref D) "__init__" = some (some (.ref (He.ma K D "__init__"))) ∧ PySem.W.typeIn K (.ref (He.ma K D "__init__")) = some (.type "function") := by
  unfold rseB at h
  simp only [Bool.and_eq_true, decide_eq_true_eq] at h
  obtain ⟨⟨⟨⟨⟨⟨h1, h2⟩, h3⟩, h4⟩, h5⟩, h6⟩, h7⟩ := h
  exact ⟨⟨oexB_ok h1, h2, h3, h4, h5⟩, h6, h7⟩
def cutB (K : PySem.W.Frag) (D : Addr) : Bool := decide (PySem.W.specialIn K (.ref D) "__getattribute__" = some (some (.builtin "type.__getattribute__"))) && decide (PySem.W.typeIn K (.ref D) = some (.type "type")) && PySem.W.readsIn K D (.type "type") &&
  (match PySem.W.findCls K (.ref D) (.type "type") "__init__" with
    | some (.val v) => decide (v = .builtin "ValueError.__init__")
    | _ => false)
theorem cutB_ok {K : PySem.W.Frag} {D : Addr} (h : cutB K D = true) : CutC K D := by
  unfold cutB at h
  simp only [Bool.and_eq_true, decide_eq_true_eq] at h
  obtain ⟨⟨⟨h1, h2⟩, h3⟩, h4⟩ := h
  refine ⟨h1, h2, h3, ?_⟩
  split at h4
  · rename_i v e
    rw [e, of_decide_eq_true h4]
  · cases h4
/-! constants -/
mutual
def valB (K : PySem.W.Frag) : PyData → Value → Bool
  | .none, .none => true
  | .bool a, .bool b => decide (a = b)
  | .int a, .int b _ => decide (a = b)
  | .str a, .str b _ => decide (a = b)
  | .tuple ds, .ref a => (match K.lookup a with
    | some ⟨.type c, _, .seq its _, _⟩ => decide (c = "tuple") && decide (its.size ≤ sizeLine) && valsB K ds its.toList
    | _ => false)
  | _, _ => false
def valsB (K : PySem.W.Frag) : List PyData → List Value → Bool
  | [], [] => true
  | d :: ds, u :: us => valB K d u && valsB K ds us
  | _, _ => false
end
mutual
theorem valB_ok {K : PySem.W.Frag} : ∀ {d : PyData} {u : Value}, valB K d u = true → ∃ v, RelV v u ∧ ∀ F H, RP K F H v d
  | .none, u, h => by cases u <;> first | exact ⟨.non, rfl, fun _ _ => .non⟩ | cases h
  | .bool a, u, h => by cases u <;> first | (have := of_decide_eq_true h; subst this; exact ⟨.bl _, rfl, fun _ _ => .bl _⟩) | cases h
  | .int a, u, h => by cases u <;> first | (have := of_decide_eq_true h; subst this; exact ⟨.int _, ⟨_, rfl⟩, fun _ _ => .int _⟩) | cases h
  | .str a, u, h => by cases u <;> first | (have := of_decide_eq_true h; subst this; exact ⟨.str _, ⟨_, rfl⟩, fun _ _ => .str _⟩) | cases h
  | .list a, u, h => by cases u <;> cases h
  | .dict a, u, h => by cases u <;> cases h
  | .tuple ds, u, h => by
    cases u <;> try (cases h; done)
    rename_i a
    simp only [valB] at h
    split at h
    · rename_i c od its n sl e
      simp only [Bool.and_eq_true, decide_eq_true_eq] at h
      obtain ⟨⟨h1, h2⟩, h3⟩ := h
      obtain ⟨vs, rv, rp⟩ := valsB_ok h3
      exact ⟨.ref a, rfl, fun F H => .tup (.inr ⟨_, its, n, e, congrArg Value.type h1, rfl, h2, rv⟩) (rp F H)⟩
    · cases h
theorem valsB_ok {K : PySem.W.Frag} : ∀ {ds : List PyData} {us : List Value}, valsB K ds us = true → ∃ vs, Vals vs us ∧ ∀ F H, RPs K F H vs ds
  | [], us, h => by cases us <;> first | exact ⟨[], .nil, fun _ _ => .nil⟩ | cases h
  | d :: ds, us, h => by
    cases us with
    | nil => cases h
    | cons u us =>
      simp only [valsB, Bool.and_eq_true] at h
      obtain ⟨v, r1, r2⟩ := valB_ok h.1
      obtain ⟨vs, r3, r4⟩ := valsB_ok h.2
      exact ⟨v :: vs, .cons r1 r3, fun F H => .cons (r2 F H) (r4 F H)⟩
end
def conB (K : PySem.W.Frag) (p : Str × PyData) : Bool := match PySem.W.nsIn K mainGlobals p.1 with
  | some (some u) => valB K p.2 u
  | _ => false
theorem conB_ok {K : PySem.W.Frag} {h : Heap} {mg : Str → Option Value} (kin : K.In h) (G : h.Ns mainGlobals mg) {p : Str × PyData} (c : conB K p = true) : ∃ u v, mg p.1 = some u ∧ RelV v u ∧ ∀ F H, RP K F H v p.2 := by
  unfold conB at c
  split at c
  · rename_i u e
    obtain ⟨v, r1, r2⟩ := valB_ok c
    exact ⟨u, v, PySem.W.mg_of kin G e, r1, r2⟩
  · cases c
end NC

set_option Elab.async false
set_option linter.all false
set_option maxRecDepth 100000
set_option maxHeartbeats 4000000
namespace NC
open PySem PySem.Spec PyProof.Rows L2
/-! ### how arguments bind, what a scope is -/
theorem lookup_zip : ∀ {ps : List Str} {us : List Value}, ps.Nodup → us.length = ps.length → (ps.filterMap fun n => ((ps.zip us).lookup n).map (n, ·)) = ps.zip us ∧ (ps.filter fun n => ((ps.zip us).lookup n).isNone) = [] := by
  intro ps us nd hl
  have key : ∀ (qs : List Str) (vs : List Value), qs.length = vs.length → (∀ n v, (n, v) ∈ qs.zip vs → (ps.zip us).lookup n = some v) → (qs.filterMap fun n => ((ps.zip us).lookup n).map (n, ·)) = qs.zip vs ∧ (qs.filter fun n => ((ps.zip us).lookup n).isNone) = [] := by
    intro qs
    induction qs with
    | nil => intro vs _ _; cases vs <;> exact ⟨rfl, rfl⟩
    | cons q qs ih =>
      intro vs hl h
      cases vs with
      | nil => cases hl
      | cons v vs =>
        have e := h q v (by simp)
        obtain ⟨i1, i2⟩ := ih vs (by simpa using hl) (fun n w hm => h n w (by simp [hm]))
        constructor
        · rw [List.filterMap_cons, e]
          show (q, v) :: _ = _
          rw [i1]; rfl
        · rw [List.filter_cons, e]
          exact i2
  refine key ps us hl.symm fun n v hm => ?_
  clear key
  induction ps generalizing us with
  | nil => simp at hm
  | cons p ps ih =>
    cases us with
    | nil => simp at hm
    | cons u us =>
      rw [List.nodup_cons] at nd
      simp only [List.zip_cons_cons, List.mem_cons, Prod.mk.injEq] at hm
      rw [List.zip_cons_cons, List.lookup_cons]
      rcases hm with ⟨rfl, rfl⟩ | hm
      · simp
      · have : n ∈ ps := (List.of_mem_zip hm).1
        have ne : (n == p) = false := by
          rw [beq_eq_false_iff_ne]
          rintro rfl
          exact nd.1 this
        rw [ne]
        exact ih nd.2 (by simpa using hl) hm
theorem bind_plain {x qual : Str} {args : List Arg} {body : List Stmt} {scope : Scope} {kV doc pm cdv ct : Value} {an : Option Addr} {us : List Value} (nd : (args.map (·.arg)).Nodup) (hl : us.length = (args.map (·.arg)).length) :
    bindArgs (PySem.W.fnOf x qual { posonlyargs := [], args := args, vararg := none, kwonlyargs := [], kw_defaults := [], kwarg := none, defaults := [] } body scope .none kV doc pm an cdv ct) ⟨us, []⟩ = pure ((args.map (·.arg)).zip us) := by
  obtain ⟨h1, h2⟩ := lookup_zip nd hl
  have ht : (args.map (·.arg)).take (args.map (·.arg)).length = args.map (·.arg) := List.take_length
  unfold bindArgs PySem.W.fnOf
  simp only [List.map_nil, List.nil_append, List.forIn_nil, pure_bind]
  rw [show seqItems? Value.none = pure none from rfl]
  simp only [pure_bind, hl, Nat.lt_irrefl, gt_iff_lt, decide_false, Bool.false_and, Bool.false_eq_true, if_false, Option.getD_none, List.drop_nil, List.length_nil, Nat.sub_zero, ht, h2, List.isEmpty_nil, Bool.not_true, List.zip_nil_right, List.forIn_nil, List.append_nil, h1]
def argsB (p : Arguments) (ps : List Str) : Bool := match p with
  | ⟨[], args, none, [], [], none, []⟩ => decide (args.map (·.arg) = ps)
  | _ => false
theorem argsB_ok {x qual : Str} {p : Arguments} {ps : List Str} {body : List Stmt} {scope : Scope} (nd : ps.Nodup) (h : argsB p ps = true) (kV doc pm : Value) (an : Option Addr) (cdv ct : Value) (us : List Value) (hl : us.length = ps.length) :
    bindArgs (PySem.W.fnOf x qual p body scope .none kV doc pm an cdv ct) ⟨us, []⟩ = pure (ps.zip us) := by
  unfold argsB at h
  split at h
  · rename_i args
    have e := of_decide_eq_true h
    subst e
    exact bind_plain nd hl
  · cases h
def kindB (sc : Scope) : Bool := match sc.kind with
  | .function => true
  | _ => false
def freeB (k : NameKind) : Bool := match k with
  | .free => true
  | _ => false
def scB (N ps : List Str) (sc : Scope) : Bool := kindB sc && !sc.isCoroutine && !sc.isGenerator && decide N.Nodup && decide (N.take ps.length = ps) && ps.all (locB sc) && sc.names.all fun y => !freeB y.2
theorem scB_ok {N ps : List Str} {sc : Scope} (h : scB N ps sc = true) : FnScope N ps sc := by
  unfold scB at h
  simp only [Bool.and_eq_true, Bool.not_eq_true', decide_eq_true_eq, List.all_eq_true] at h
  obtain ⟨⟨⟨⟨⟨⟨h1, h2⟩, h3⟩, h4⟩, h5⟩, h6⟩, h7⟩ := h
  refine ⟨?_, h2, h3, h4, h5, fun x hx => loc_of (h6 x hx), fun y hy e => ?_⟩
  · unfold kindB at h1
    split at h1
    · assumption
    · cases h1
  · have := h7 y hy
    rw [e] at this
    cases this
theorem scB_nd {N ps : List Str} {sc : Scope} (h : scB N ps sc = true) : ps.Nodup := by
  have S := scB_ok h
  have := S.nd
  rw [← S.pre]
  exact this.sublist (List.take_sublist _ _)
/-- a def of the head is a def of the layer -/
theorem fun_of {K : PySem.W.Frag} {x qual : Str} {st : Stmt} {f : Addr} {fd : FuncData} (F : FunD K x qual (defArgs st) (defBody st) (defScope st) [] [] f fd) : Fun K x qual st f fd := by
  obtain ⟨oc, od, dV, kV, doc, pm, an, cdv, ct, osl, rfl, lk, hcd, hD, hK⟩ := F.ex
  rcases hD with ⟨_, rfl⟩ | ⟨e, _⟩
  · exact ⟨⟨oc, od, kV, doc, pm, an, cdv, ct, osl, rfl, lk, hcd⟩, F.kp⟩
  · exact absurd rfl e
/-! ### one law's data -/
structure LD where
  prog : Program
  G : Gam
  fns : List Fn
  tbl : List (List Bool)
  ixs : List Nat
  nms : List (List Str)
  mx : Nat
  dr : Nat
  bg : Nat
  lw : Nat
  lawN : List Str
  body : Ss
  inis : List (Nat × Str × Nat × List Str)
  cut : Str
namespace LD
variable (L : LD)
def top (i : Nat) : Stmt := L.prog.main.body.getD i (.Pass ⟨0, 0, 0, 0⟩)
def ini (i : Nat) : Stmt := match L.top i with
  | .ClassDef _ _ _ body _ _ _ _ _ _ _ => body.getD 0 (.Pass ⟨0, 0, 0, 0⟩)
  | s => s
def cix (c : Nat) : Nat := if c < L.G.cnm.length then c else 0
def sub (c' c : Nat) : Bool := (L.tbl.getD (L.cix c') []).getD (L.cix c) false
def cnm (c : Nat) : Str := L.G.cnm.getD (L.cix c) ""
def cls (K : PySem.W.Frag) (c : Nat) : Addr := He.ga K (L.cnm c)
def defD (x : Str) (st : Stmt) : He.DefD := ⟨(x, none), x, x, defArgs st, defBody st, defScope st, [], []⟩
def iniD (p : Nat × Str × Nat × List Str) : He.DefD := ⟨(L.cnm p.1, some "__init__"), "__init__", L.cnm p.1 ++ ".__init__", defArgs (L.ini p.2.2.1), defBody (L.ini p.2.2.1), defScope (L.ini p.2.2.1), [], []⟩
def fnD (f : Nat) : He.DefD := defD (L.G.fnm.getD f "") (L.top (L.ixs.getD f 0))
def dfs : List He.DefD := [defD "_law_mixed" (L.top L.mx), defD "_law_draw" (L.top L.dr), defD "_law_begin" (L.top L.bg), defD "law" (L.top L.lw)] ++ L.inis.map L.iniD ++ (List.range L.G.fnm.length).map L.fnD
def fas : List He.Fa := (([("_law_mixed" : Str), "_law_draw", "_law_begin", "law", L.cut] : List Str).map He.Fa.glo) ++ (L.G.fnm.map He.Fa.glo) ++ (L.G.cnm.map He.Fa.glo) ++ bltNames.map He.Fa.free
def myB (K : PySem.W.Frag) : Bool := L.G.con.all (conB K) && cutB K (He.ga K L.cut) && L.G.rsl.all (fun p => rseB K (L.cls K p.1)) &&
  (List.range L.G.cnm.length).all fun c => excB K (L.cls K c) && L.G.fld.all (fun f => decide (PySem.W.findIn K (.ref (L.cls K c)) f = some none)) &&
    (List.range L.G.cnm.length).all fun c' => decide (PySem.W.kitOne K (.ref (L.cls K c')) (.ref (L.cls K c)) = some (L.sub c' c)) && decide (PySem.W.exmOne K (.ref (L.cls K c')) (.ref (L.cls K c)) = some (L.sub c' c))
def sysB (g : Addr → Option Obj) : Bool := match g sysModules with
  | some ⟨.type "dict", _, _, _⟩ => true
  | _ => false
def obs (n : Nat) (g : Addr → Option Obj) : Bool × He.AlD := (sysB g && L.myB (He.frG g (cStatics :: He.asD g n)), He.obsD L.fas L.dfs (He.frG g (cStatics :: He.asD g n)))
def hook (n : Nat) : PySem.W.Hook where
  α := Bool × He.AlD
  obs := fun s => L.obs n s.heap.get?
  val := fun _ => (true, He.valD L.dfs)
  says := fun _ h => (∃ o, h.get? sysModules = some o ∧ o.cls = .type "dict") ∧ ∃ K : PySem.W.Frag, K.In h ∧ L.myB K = true ∧ He.SaysD L.fas L.dfs K
  of := fun _ s e => by
    have e1 : (sysB s.heap.get? && L.myB (He.frG s.heap.get? (cStatics :: He.asD s.heap.get? n))) = true := congrArg Prod.fst e
    rw [Bool.and_eq_true] at e1
    refine ⟨?_, _, He.frG_in, e1.2, congrArg Prod.snd e⟩
    have e2 := e1.1
    unfold sysB at e2
    split at e2
    · rename_i d dt sl ho
      exact ⟨_, ho, rfl⟩
    · cases e2
  keeps := fun _ _ _ ⟨⟨o, h1, h2⟩, K, hK, c⟩ k => ⟨⟨o, k _ _ h1, h2⟩, K, PySem.W.Frag.In.keeps hK k, c⟩
theorem obs_eq {n : Nat} {g : Addr → Option Obj} {s : Shared} (h : ∀ a, g a = s.heap.get? a) : L.obs n g = (L.hook n).obs s := by
  have e : g = s.heap.get? := funext h
  rw [e] <;> rfl
/-- what is to be checked of the texts -/
def fnB (f : Nat) : Bool := (match L.fns[f]?, L.nms[f]? with
  | some fn, some N => scB N (N.take fn.np) (defScope (L.top (L.ixs.getD f 0))) && argsB (defArgs (L.top (L.ixs.getD f 0))) (N.take fn.np) && decide (fn.np ≤ N.length) && decide (fn.ns = N.length) && cSs L.G N (defScope (L.top (L.ixs.getD f 0))) fn.body (defBody (L.top (L.ixs.getD f 0)))
  | _, _ => false)
def iniB (p : Nat × Str × Nat × List Str) : Bool := scB p.2.2.2 p.2.2.2 (defScope (L.ini p.2.2.1)) && argsB (defArgs (L.ini p.2.2.1)) p.2.2.2 && decide (p.2.2.2.length = 2) && initB p.2.2.2 (defScope (L.ini p.2.2.1)) L.cut p.2.1 (defBody (L.ini p.2.2.1)) && decide (p.2.1 ∈ L.G.fld) && decide (p.1 < L.G.cnm.length)
def staB : Bool := (List.range L.G.fnm.length).all L.fnB && L.inis.all L.iniB && L.G.rsl.all (fun q => L.inis.any fun p => decide (p.1 = q.1) && decide (p.2.1 = q.2)) && decide (0 < L.G.cnm.length) &&
  (scB ["_law_cell", "_law_k"] ["_law_cell", "_law_k"] (defScope (L.top L.mx)) && argsB (defArgs (L.top L.mx)) ["_law_cell", "_law_k"] && mixB (defScope (L.top L.mx)) (defBody (L.top L.mx))) &&
  (scB drN ["_law_state", "_law_many"] (defScope (L.top L.dr)) && argsB (defArgs (L.top L.dr)) ["_law_state", "_law_many"] && drawB (defScope (L.top L.dr)) (defBody (L.top L.dr))) &&
  (scB bgN ["_law_script"] (defScope (L.top L.bg)) && argsB (defArgs (L.top L.bg)) ["_law_script"] && beginB (defScope (L.top L.bg)) (defBody (L.top L.bg))) &&
  (scB L.lawN ["_law_script"] (defScope (L.top L.lw)) && argsB (defArgs (L.top L.lw)) ["_law_script"] && decide (2 ≤ L.lawN.length) && lawB L.G L.lawN (defScope (L.top L.lw)) L.body (defBody (L.top L.lw)))
end LD
end NC

set_option Elab.async false
set_option linter.all false
set_option maxRecDepth 100000
set_option maxHeartbeats 4000000
namespace NC
open PySem PySem.Spec PyProof.Rows L2
namespace LD
variable {L : LD} {K : PySem.W.Frag} {h : Heap} {mg : Str → Option Value}
theorem says_def (c : He.SaysD L.fas L.dfs K) {d : He.DefD} (hd : d ∈ L.dfs) : ∃ fd, FunD K d.name d.qual d.params d.body d.scope (d.dvs K) (d.kws K) (He.fAd K d.at_) fd := by
  obtain ⟨i, hi⟩ := List.getElem?_of_mem hd
  exact c.def_ i hi
theorem says_fact (c : He.SaysD L.fas L.dfs K) {f : He.Fa} (hf : f ∈ L.fas) : f.ok K = true := by
  obtain ⟨i, hi⟩ := List.getElem?_of_mem hf
  exact c.fact i hi
theorem cix_lt (hn : 0 < L.G.cnm.length) (c : Nat) : L.cix c < L.G.cnm.length := by
  unfold cix; split <;> assumption
theorem cix_cix (hn : 0 < L.G.cnm.length) (c : Nat) : L.cix (L.cix c) = L.cix c := by
  have := cix_lt hn c
  show (if L.cix c < L.G.cnm.length then L.cix c else 0) = L.cix c
  rw [if_pos this]
theorem cls_cix (hn : 0 < L.G.cnm.length) (c : Nat) : L.cls K (L.cix c) = L.cls K c := by
  unfold cls cnm; rw [cix_cix hn]
theorem sub_cix (hn : 0 < L.G.cnm.length) (c' c : Nat) : L.sub (L.cix c') (L.cix c) = L.sub c' c := by
  unfold sub; rw [cix_cix hn, cix_cix hn]
theorem cnm_get {c : Nat} {y : Str} (e : L.G.cnm[c]? = some y) : L.cnm c = y ∧ c < L.G.cnm.length := by
  have hl := (List.getElem?_eq_some_iff.mp e).1
  refine ⟨?_, hl⟩
  unfold cnm cix
  rw [if_pos hl, List.getD_eq_getElem?_getD, e]
  rfl
theorem nc_law {P : Program} {w : World} {most : Nat} (kk : Nat) (st : L.staB = true) (kin : K.In h) (ns : h.Ns mainGlobals mg) (my : L.myB K = true) (c : He.SaysD L.fas L.dfs K) (hm : most < 16777216) (ok : LawOk (calls L.fns L.sub kk) L.sub L.body L.lawN.length most) :
    ∃ fd : FuncData, mg "law" = some (.ref (He.ga K "law")) ∧ (∀ (s : Shared) (u : Value), BindsTo s fd ⟨[u], []⟩ [("_law_script", u)]) ∧ ∀ base : Heap, K.In base → base.Ns mainGlobals mg → KSys base → FnG P w K mg base (kk + 4) (He.ga K "law") fd ["_law_script"] (spL K most) := by
  unfold staB at st
  simp only [Bool.and_eq_true, decide_eq_true_eq, List.all_eq_true] at st
  obtain ⟨⟨⟨⟨⟨⟨⟨s1, s2⟩, s3⟩, s4⟩, ⟨m1, m2⟩, m3⟩, ⟨d1, d2⟩, d3⟩, ⟨b1, b2⟩, b3⟩, ⟨⟨l1, l2⟩, l3⟩, l4⟩ := st
  unfold myB at my
  simp only [Bool.and_eq_true, List.all_eq_true, List.mem_range, decide_eq_true_eq] at my
  obtain ⟨⟨⟨c1, c2⟩, c3⟩, c4⟩ := my
  have glo : ∀ x, He.Fa.glo x ∈ L.fas → mg x = some (.ref (He.ga K x)) := fun x hx => He.glo_ok kin ns (says_fact c hx)
  have blt : ∀ x ∈ bltNames, mg x = none := fun x hx => He.free_ok kin ns (says_fact c (List.mem_append_right _ (List.mem_map.mpr ⟨x, hx, rfl⟩)))
  have gloC : ∀ c y, L.G.cnm[c]? = some y → mg y = some (.ref (He.ga K y)) := fun c y e => glo y (List.mem_append_left _ (List.mem_append_right _ (List.mem_map.mpr ⟨y, List.mem_of_getElem? e, rfl⟩)))
  have gloF : ∀ f x, L.G.fnm[f]? = some x → mg x = some (.ref (He.ga K x)) := fun f x e => glo x (List.mem_append_left _ (List.mem_append_left _ (List.mem_append_right _ (List.mem_map.mpr ⟨x, List.mem_of_getElem? e, rfl⟩))))
  have glo4 : ∀ x ∈ ([("_law_mixed" : Str), "_law_draw", "_law_begin", "law", L.cut] : List Str), mg x = some (.ref (He.ga K x)) := fun x hx => glo x (List.mem_append_left _ (List.mem_append_left _ (List.mem_append_left _ (List.mem_map.mpr ⟨x, hx, rfl⟩))))
  have dm : ∀ {x : Str} {st : Stmt}, defD x st ∈ L.dfs → ∃ fd, Fun K x x st (He.ga K x) fd := fun {x st} hd => by
    obtain ⟨fd, F⟩ := says_def c hd
    exact ⟨fd, fun_of F⟩
  have head4 : ∀ {d : He.DefD}, d ∈ [defD "_law_mixed" (L.top L.mx), defD "_law_draw" (L.top L.dr), defD "_law_begin" (L.top L.bg), defD "law" (L.top L.lw)] → d ∈ L.dfs := fun hd => List.mem_append_left _ (List.mem_append_left _ hd)
  obtain ⟨fdm, Fm⟩ := dm (head4 (List.mem_cons_self ..))
  obtain ⟨fdd, Fd⟩ := dm (head4 (List.mem_cons_of_mem _ (List.mem_cons_self ..)))
  obtain ⟨fdb, Fb⟩ := dm (head4 (List.mem_cons_of_mem _ (List.mem_cons_of_mem _ (List.mem_cons_self ..))))
  obtain ⟨fdl, Fl⟩ := dm (head4 (List.mem_cons_of_mem _ (List.mem_cons_of_mem _ (List.mem_cons_of_mem _ (List.mem_cons_self ..)))))
  have bm : Binds K fdm ["_law_cell", "_law_k"] [] := Fm.binds (argsB_ok (scB_nd m1) m2)
  have bd : Binds K fdd ["_law_state", "_law_many"] [] := Fd.binds (argsB_ok (scB_nd d1) d2)
  have bb : Binds K fdb ["_law_script"] [] := Fb.binds (argsB_ok (scB_nd b1) b2)
  refine ⟨fdl, glo4 _ (by simp), fun s u => ?_, fun base kb nb sys => ?_⟩
  · obtain ⟨oc, od, kV, doc, pm, an, cdv, ct, osl, rfl, lk, hcd⟩ := Fl.ex
    exact .of_eq (argsB_ok (scB_nd l1) l2 kV doc pm an cdv ct [u] rfl)
  · have mixG : ∃ a fd, mg "_law_mixed" = some (.ref a) ∧ PySem.W.keepIn K (.ref a) = true ∧ Binds K fd ["_law_cell", "_law_k"] [] ∧ FnG P w K mg base 1 a fd ["_law_cell", "_law_k"] spM := ⟨_, fdm, glo4 _ (by simp), Fm.kp, bm, fn_mix Fm (scB_ok m1) blt m3⟩
    have T : ∀ C : Ctx, C.K = K → C.cls = L.cls K → FT L.G L.fns C.K mg := fun C e1 e2 f x e => by
      subst e1
      have hf : f < L.G.fnm.length := (List.getElem?_eq_some_iff.mp e).1
      have q := s1 f (List.mem_range.mpr hf)
      unfold fnB at q
      split at q
      · rename_i fn N hfn hN
        simp only [Bool.and_eq_true, decide_eq_true_eq] at q
        obtain ⟨⟨⟨⟨q1, q2⟩, q3⟩, q4⟩, q5⟩ := q
        have ex : L.G.fnm.getD f "" = x := by rw [List.getD_eq_getElem?_getD, e]; rfl
        have hd : defD x (L.top (L.ixs.getD f 0)) ∈ L.dfs := List.mem_append_right _ (List.mem_map.mpr ⟨f, List.mem_range.mpr hf, by unfold fnD; rw [ex]⟩)
        obtain ⟨fd, F⟩ := dm hd
        exact ⟨fn, _, x, _, fd, N, N.take fn.np, hfn, gloF f x e, F.binds (argsB_ok (scB_nd q1) q2), F, scB_ok q1, by rw [List.length_take]; omega, q4, q5⟩
      · cases q
    have B : ∀ C : Ctx, C.K = K → C.cls = L.cls K → GB L.G C L.sub P w mg base := fun C e1 e2 => by
      subst e1
      have hcls : ∀ cc, C.cls cc = L.cls C.K cc := fun cc => by rw [e2]
      have cc4 : ∀ cc c', PySem.W.kitOne C.K (.ref (C.cls c')) (.ref (C.cls cc)) = some (L.sub c' cc) ∧ PySem.W.exmOne C.K (.ref (C.cls c')) (.ref (C.cls cc)) = some (L.sub c' cc) := fun cc c' => by
        have q := (c4 (L.cix cc) (cix_lt s4 cc)).2 (L.cix c') (cix_lt s4 c')
        rw [cls_cix s4, cls_cix s4, sub_cix s4] at q
        rw [hcls, hcls]
        exact q
      refine ⟨fun x d hx => ?_, blt, ⟨_, fdd, glo4 _ (by simp), Fd.kp, bd, fn_draw rfl Fd (scB_ok d1) blt d3 mixG⟩, fun cc y e => ⟨?_, fun c' => (cc4 cc c').1⟩, fun cc y e c' => (cc4 cc c').2, fun cc => ?_, fun cc f hr => ?_, fun cc f hf => ?_⟩
      · exact conB_ok kin ns (c1 (x, d) hx)
      · rw [hcls]
        unfold cls
        rw [(cnm_get e).1]
        exact gloC cc y e
      · have q := (c4 (L.cix cc) (cix_lt s4 cc)).1.1
        rw [cls_cix s4] at q
        rw [hcls]
        exact excB_ok q
      · obtain ⟨r1, r2, r3⟩ := rseB_ok (c3 (cc, f) hr)
        have q := s3 (cc, f) hr
        rw [List.any_eq_true] at q
        obtain ⟨p, hp, q⟩ := q
        simp only [Bool.and_eq_true, decide_eq_true_eq] at q
        obtain ⟨q1, q2⟩ := q
        have z := s2 p hp
        unfold iniB at z
        simp only [Bool.and_eq_true, decide_eq_true_eq] at z
        obtain ⟨⟨⟨⟨⟨z1, z2⟩, z3⟩, z4⟩, z5⟩, z6⟩ := z
        obtain ⟨fd, F⟩ := says_def c (d := L.iniD p) (List.mem_append_left _ (List.mem_append_right _ (List.mem_map.mpr ⟨p, hp, rfl⟩)))
        have F2 := fun_of (st := L.ini p.2.2.1) F
        have eA : He.fAd C.K (L.iniD p).at_ = He.ma C.K (L.cls C.K cc) "__init__" := by
          show He.ma C.K (He.ga C.K (L.cnm p.1)) "__init__" = _
          rw [q1]; rfl
        rw [eA] at F2
        have fno : PySem.W.findIn C.K (.ref (L.cls C.K cc)) f = some none := by
          have z7 := (c4 cc (by rw [← q1]; exact z6)).1.2 f (by rw [← q2]; exact z5)
          exact z7
        rw [hcls]
        refine ⟨_, fd, p.2.2.2, r1, r2, r3, ?_, F2.binds (argsB_ok (scB_nd z1) z2)⟩
        exact fn_init (P := P) (w := w) F2 (scB_ok z1) z3 z3 (cutB_ok c2) (glo4 _ (by simp)) r1 fno blt (by rw [← q2]; exact z4)
      · have q := (c4 (L.cix cc) (cix_lt s4 cc)).1.2 f hf
        rw [cls_cix s4] at q
        rw [hcls]
        exact q
    exact fn_law (cls := L.cls K) (calls_mono L.fns L.sub kk) (fun C e1 e2 => gok (B C e1 e2) sys (T C e1 e2) kk) (by omega) sys Fl (scB_ok l1) l3 blt ⟨_, fdb, glo4 _ (by simp), Fb.kp, bb, fn_begin Fb (scB_ok b1) blt b3⟩ l4 hm ok
end LD
end NC

set_option Elab.async false
set_option linter.all false
namespace NC
def ss : List S → Ss
  | [] => .nil
  | s :: r => .cons s (ss r)
def es : List E → Es
  | [] => .nil
  | e :: r => .cons e (es r)
end NC

set_option Elab.async false
set_option linter.all false
set_option maxRecDepth 100000
set_option maxHeartbeats 400000
namespace NC
open PySem
/-! ### plain tools -/
/-- a comprehension without draws: each item gives o x -/
theorem compW_pure {f : PyData → Nat → (Option PyData → Nat → Prop) → Prop} {o : PyData → Option PyData} : ∀ {xs acc : List PyData} {g : Nat} {Q : List PyData → Nat → Prop}, (∀ x ∈ xs, ∀ g P, P (o x) g → f x g P) → acc.length + xs.length ≤ 16777216 → Q (acc ++ xs.filterMap o) g → compW f xs acc g Q
  | [], acc, g, Q, _, _, q => by simpa [compW] using q
  | x :: r, acc, g, Q, h, hl, q => by
    unfold compW
    refine h x (List.mem_cons_self ..) g _ ?_
    cases e : o x with
    | none =>
      refine compW_pure (fun y hy => h y (List.mem_cons_of_mem _ hy)) (by simp only [List.length_cons] at hl; omega) ?_
      rw [List.filterMap_cons, e] at q
      exact q
    | some y =>
      simp only [List.length_cons] at hl
      refine ⟨by omega, compW_pure (fun y hy => h y (List.mem_cons_of_mem _ hy)) (by simp only [List.length_append, List.length_cons, List.length_nil]; omega) ?_⟩
      rw [List.filterMap_cons, e] at q
      simpa using q
/-- a comprehension with draws: what holds of each item's value, and of the draws -/
theorem compW_draw {f : PyData → Nat → (Option PyData → Nat → Prop) → Prop} {p : PyData → Nat → PyData → Prop} {k b : Nat} : ∀ {xs acc : List PyData} {n g : Nat} {Q : List PyData → Nat → Prop},
    (∀ x ∈ xs, ∀ g P, g + k ≤ b → (∀ y g', p x g y → g' ≤ g + k → P (some y) g') → f x g P) → acc.length + xs.length ≤ 16777216 → g + k * xs.length ≤ b →
    (∀ (ys : List PyData) (g' : Nat), ys.length = xs.length → (∀ (i : Nat) (y : PyData), ys[i]? = some y → ∃ x g0, xs[i]? = some x ∧ p x g0 y) → g' ≤ g + k * xs.length → Q (acc ++ ys) g') → compW f xs acc g Q
  | [], acc, n, g, Q, _, _, _, q => by
    have := q [] g rfl (fun i y h => by simp at h) (by omega)
    simpa [compW] using this
  | x :: r, acc, n, g, Q, h, hl, hb, q => by
    unfold compW
    simp only [List.length_cons, Nat.mul_add, Nat.mul_one] at hl hb q
    refine h x (List.mem_cons_self ..) g _ (by omega) fun y g' hy hg => ?_
    refine ⟨by omega, compW_draw (n := n) (fun z hz => h z (List.mem_cons_of_mem _ hz)) (by simp only [List.length_append, List.length_cons, List.length_nil]; omega) (by omega) fun ys g2 e1 e2 e3 => ?_⟩
    have := q (y :: ys) g2 (by simp [e1]) (fun i z hz => ?_) (by omega)
    · simpa using this
    · cases i with
      | zero => simp at hz; subst hz; exact ⟨x, g, rfl, hy⟩
      | succ i => simpa using e2 i z (by simpa using hz)
/-- a loop by what holds of the items still to come -/
theorem forW_rule {f : PyData → Env → Nat → SEnds → Prop} {D : SEnds} (I : List PyData → Env → Nat → Prop) (mono : ∀ x δ g D1 D2, SLe D1 D2 → f x δ g D1 → f x δ g D2)
    (step : ∀ x r δ g, I (x :: r) δ g → f x δ g { nx := I r, rt := D.rt, bk := D.nx, ct := I r }) (stop : ∀ δ g, I [] δ g → D.nx δ g) : ∀ {xs : List PyData} {δ : Env} {g : Nat}, I xs δ g → forW f xs δ g D
  | [], δ, g, h => stop δ g h
  | x :: r, δ, g, h => by
    unfold forW
    exact mono x δ g { nx := I r, rt := D.rt, bk := D.nx, ct := I r } _ ⟨fun δ' g' h' => forW_rule I mono step stop h', fun _ _ z => z, fun _ _ z => z, fun δ' g' h' => forW_rule I mono step stop h'⟩ (step x r δ g h)
end NC

set_option Elab.async false
set_option linter.all false
set_option maxRecDepth 100000
set_option maxHeartbeats 1000000
namespace NC
open PySem
/-! ### code without draws, computed -/
inductive Rz (α : Type) where
  | ok (a : α)
  | ex (c : Nat) (fs : List (Str × PyData))
inductive Fl where
  | nx (δ : Env)
  | rt (v : VD)
  | ex (c : Nat) (fs : List (Str × PyData)) (δ : Env)
abbrev PC := Nat → List VD → Option (Rz VD)
def bR {α β : Type} (m : Option (Rz α)) (f : α → Option (Rz β)) : Option (Rz β) := match m with
  | some (.ok a) => f a
  | some (.ex c fs) => some (.ex c fs)
  | none => none
def rS {α : Type} (m : Option α) : Option (Rz α) := m.map .ok
def bD : VD → Option Bool
  | .d (.bool c) => some c
  | _ => none
def lD : VD → Option PyData
  | .d x => some x
  | _ => none
def iD : VD → Option Int
  | .d (.int i) => some i
  | _ => none
def compE (f : PyData → Option (Option PyData)) : List PyData → List PyData → Option (List PyData)
  | [], acc => some acc
  | x :: r, acc => match f x with
    | none => none
    | some none => compE f r acc
    | some (some y) => if acc.length < 16777216 then compE f r (acc ++ [y]) else none
def forE (f : PyData → Env → Option Fl) : List PyData → Env → Option Fl
  | [], δ => some (.nx δ)
  | x :: r, δ => match f x δ with
    | some (.nx δ') => forE f r δ'
    | o => o
def pureR {α : Type} : Option (Rz α) → Option α
  | some (.ok a) => some a
  | _ => none
def itE (it : It) (v : VD) : Option (List PyData) := itS it v
section
variable (Ψ : PC) (sub : Nat → Nat → Bool)
mutual
def eE : E → Env → Option (Rz VD)
  | .var i, δ => match δ[i]? with
    | some (.sh v) => some (.ok v)
    | _ => none
  | .peek i, δ => match δ[i]? with
    | some (.ow ds) => some (.ok (.d (.list ds)))
    | _ => none
  | .cst d, _ => some (.ok (.d d))
  | .glo _ d, _ => some (.ok (.d d))
  | .tup es, δ => bR (eEs es δ) fun vs => match allD vs with
    | some xs => if okLen xs.length = true then some (.ok (.d (.tuple xs))) else none
    | none => none
  | .lst es, δ => bR (eEs es δ) fun vs => match allD vs with
    | some xs => if okLen xs.length = true then some (.ok (.d (.list xs))) else none
    | none => none
  | .dic, _ => some (.ok (.d (.dict [])))
  | .bin o a b, δ => bR (eE a δ) fun x => bR (eE b δ) fun y => (binS o x y).map fun z => .ok (.d z)
  | .cmp o a b, δ => bR (eE a δ) fun x => bR (eE b δ) fun y => (cmpS o x y).map fun z => .ok (.d (.bool z))
  | .and2 a b, δ => bR (eE a δ) fun x => match bD x with
    | some true => eE b δ
    | some false => some (.ok (.d (.bool false)))
    | none => none
  | .or2 a b, δ => bR (eE a δ) fun x => match bD x with
    | some true => some (.ok (.d (.bool true)))
    | some false => eE b δ
    | none => none
  | .one a, δ => eE a δ
  | .not1 a, δ => bR (eE a δ) fun x => (bD x).map fun c => .ok (.d (.bool (!c)))
  | .ite t a b, δ => bR (eT t δ) fun c => if c = true then eE a δ else eE b δ
  | .sub a i, δ => bR (eE a δ) fun x => bR (eE i δ) fun y => (atS x y).map fun z => .ok (.d z)
  | .sli a lo hi, δ => bR (eE a δ) fun x => bR (eO lo δ) fun l => bR (eO hi δ) fun h => (cutS x l h).map fun z => .ok (.d z)
  | .call f es, δ => bR (eEs es δ) fun vs => Ψ f vs
  | .blt b es, δ => bR (eEs es δ) fun vs => (bltS b vs).map fun z => .ok (.d z)
  | .isi a t, δ => bR (eE a δ) fun x => match lD x with
    | some y => (isiS y t).map fun z => .ok (.d (.bool z))
    | none => none
  | .isx i c, δ => match δ[i]? with
    | some (.sh (.exc c' fs)) => some (.ok (.d (.bool (sub c' c))))
    | _ => none
  | .fld i f, δ => match δ[i]? with
    | some (.sh (.exc c' fs)) => (fs.lookup f).map fun x => .ok (.d x)
    | _ => none
  | .draw _ _, _ => none
  | .cnt a h x, δ => bR (eE a δ) fun y => bR (eE h δ) fun k => match y, k with
    | .d (.tuple xs), .d (.int i) => if 0 ≤ i ∧ i < xs.length ∧ PyData.plainAll (xs.take i.toNat) = true then bR (eE x δ) fun z => match lD z with
      | some d => if d.plain = true ∧ d.depth ≤ 60 then some (.ok (.d (.int (((xs.take i.toNat).countP fun z => PyData.eqv z d : Nat) : Int)))) else none
      | none => none
      else none
    | _, _ => none
  | .comp elt tg it t, δ => bR (eIt it δ) fun xs => (compE (fun x => match asgT tg (.d x) (wipeD δ tg.slots) with
      | some δ1 => match pureR (eTO t δ1) with
        | some true => match (pureR (eE elt δ1)).bind lD with
          | some z => some (some z)
          | none => none
        | some false => some none
        | none => none
      | none => none) xs []).map fun ys => .ok (.d (.list ys))
def eEs : Es → Env → Option (Rz (List VD))
  | .nil, _ => some (.ok [])
  | .cons e r, δ => bR (eE e δ) fun x => bR (eEs r δ) fun xs => some (.ok (x :: xs))
def eO : O → Env → Option (Rz (Option Int))
  | .non, _ => some (.ok none)
  | .som e, δ => bR (eE e δ) fun x => (iD x).map fun i => .ok (some i)
def eT : T → Env → Option (Rz Bool)
  | .val e, δ => bR (eE e δ) fun x => (bD x).map .ok
  | .cmp o a b, δ => bR (eE a δ) fun x => bR (eE b δ) fun y => (cmpS o x y).map .ok
  | .and2 a b, δ => bR (eT a δ) fun c => if c = true then eT b δ else some (.ok false)
  | .or2 a b, δ => bR (eT a δ) fun c => if c = true then some (.ok true) else eT b δ
  | .one a, δ => eT a δ
  | .not1 a, δ => bR (eT a δ) fun c => some (.ok (!c))
def eTO : TO → Env → Option (Rz Bool)
  | .non, _ => some (.ok true)
  | .som t, δ => eT t δ
def eIt : It → Env → Option (Rz (List PyData))
  | .seq e, δ => bR (eE e δ) fun x => (itS (.seq e) x).map .ok
  | .rng e, δ => bR (eE e δ) fun x => (itS (.rng e) x).map .ok
  | .enum e, δ => bR (eE e δ) fun x => (itS (.enum e) x).map .ok
end
def xF {α : Type} (m : Option (Rz α)) (δ : Env) (f : α → Option Fl) : Option Fl := match m with
  | some (.ok a) => f a
  | some (.ex c fs) => some (.ex c fs δ)
  | none => none
mutual
def eS : S → Env → Option Fl
  | .asg tg e, δ => xF (eE Ψ sub e δ) δ fun v => (asgT tg v δ).map .nx
  | .par i j a b, δ => xF (eE Ψ sub a δ) δ fun x => xF (eE Ψ sub b δ) δ fun y => some (.nx ((δ.set i (.sh x)).set j (.sh y)))
  | .own i e, δ => xF (eE Ψ sub e δ) δ fun v => match v with
    | .d (.list ds) => some (.nx (δ.set i (.ow ds)))
    | _ => none
  | .app i e, δ => match δ[i]? with
    | some (.ow ds) => xF (eE Ψ sub e δ) δ fun v => match lD v with
      | some x => if ds.length < 16777216 then some (.nx (δ.set i (.ow (ds ++ [x])))) else none
      | none => none
    | _ => none
  | .ins _ _ _, _ => none
  | .ifs t a b, δ => xF (eT Ψ sub t δ) δ fun c => if c = true then eSs a δ else eSs b δ
  | .forS tg it b, δ => xF (eIt Ψ sub it δ) δ fun xs => forE (fun x δ1 => match asgT tg (.d x) δ1 with
      | some δ2 => eSs b δ2
      | none => none) xs δ
  | .ret e, δ => xF (eE Ψ sub e δ) δ fun v => some (.rt v)
  | .rse c f e, δ => xF (eE Ψ sub e δ) δ fun v => match lD v with
    | some x => some (.ex c [(f, x)] δ)
    | none => none
  | .tryS b c i j, δ => match eSs b δ with
    | some (.ex c' fs δ') => if sub c' c = true then some (.nx ((δ'.set j (.sh (.exc c' fs))).set i .un)) else some (.ex c' fs δ')
    | o => o
  | .frz i, δ => (frzS i δ).map .nx
def eSs : Ss → Env → Option Fl
  | .nil, δ => some (.nx δ)
  | .cons s r, δ => match eS s δ with
    | some (.nx δ') => eSs r δ'
    | o => o
end
end
/-- calls, computed -/
def eC (fns : List Fn) (sub : Nat → Nat → Bool) : Nat → PC
  | 0 => fun _ _ => none
  | k + 1 => fun f vs => match fns[f]? with
    | some fn => if vs.length = fn.np then (match eSs (eC fns sub k) sub fn.body (vs.map .sh ++ List.replicate (fn.ns - fn.np) .un) with
      | some (.nx _) => some (.ok (.d .none))
      | some (.rt v) => some (.ok v)
      | some (.ex c fs _) => some (.ex c fs)
      | none => none) else none
    | none => none
end NC

set_option Elab.async false
set_option linter.all false
set_option maxRecDepth 100000
set_option maxHeartbeats 1000000
namespace NC
open PySem
/-! ### what is computed holds -/
def rok {α : Type} (r : Rz α) (Q : α → Nat → Prop) (R : XPost) (δ : Env) (g : Nat) : Prop := match r with
  | .ok a => Q a g
  | .ex c fs => R c fs δ g
def PSound (Ψ : PC) (Φ : Calls) : Prop := ∀ f vs r, Ψ f vs = some r → ∀ g Q (R : Nat → List (Str × PyData) → Nat → Prop), (match r with | .ok v => Q v g | .ex c fs => R c fs g) → Φ f vs g Q R
theorem bR_elim {α β : Type} {m : Option (Rz α)} {f : α → Option (Rz β)} {r : Rz β} {P : Prop} (h : bR m f = some r) (h1 : ∀ a, m = some (.ok a) → f a = some r → P) (h2 : ∀ c fs, m = some (.ex c fs) → r = .ex c fs → P) : P := by
  unfold bR at h
  split at h
  · exact h1 _ rfl h
  · cases h; exact h2 _ _ rfl rfl
  · cases h
theorem map_elim {α β : Type} {m : Option α} {f : α → β} {r : β} (h : m.map f = some r) : ∃ a, m = some a ∧ f a = r := by
  cases m with
  | none => cases h
  | some a => exact ⟨a, rfl, Option.some.inj h⟩
theorem bD_inv {x : VD} {c : Bool} (h : bD x = some c) : x = .d (.bool c) := by
  unfold bD at h; split at h
  · cases h; rfl
  · cases h
theorem lD_inv {x : VD} {c : PyData} (h : lD x = some c) : x = .d c := by
  unfold lD at h; split at h
  · cases h; rfl
  · cases h
theorem iD_inv {x : VD} {c : Int} (h : iD x = some c) : x = .d (.int c) := by
  unfold iD at h; split at h
  · cases h; rfl
  · cases h
theorem compE_ok {f : PyData → Option (Option PyData)} {w : PyData → Nat → (Option PyData → Nat → Prop) → Prop} (hw : ∀ x o g P, f x = some o → P o g → w x g P) : ∀ {xs acc ys : List PyData} {g : Nat} {Q : List PyData → Nat → Prop}, compE f xs acc = some ys → Q ys g → compW w xs acc g Q
  | [], acc, ys, g, Q, h, q => by cases h; exact q
  | x :: r, acc, ys, g, Q, h, q => by
    unfold compE at h
    unfold compW
    split at h
    · cases h
    · rename_i e; exact hw x _ g _ e (compE_ok hw h q)
    · rename_i y e
      split at h
      · rename_i hl; exact hw x _ g _ e ⟨hl, compE_ok hw h q⟩
      · cases h
theorem pureR_inv {α : Type} {m : Option (Rz α)} {a : α} (h : pureR m = some a) : m = some (.ok a) := by
  unfold pureR at h; split at h
  · cases h; rfl
  · cases h
section
variable {Ψ : PC} {Φ : Calls} {sub : Nat → Nat → Bool} (hΨ : PSound Ψ Φ)
include hΨ
mutual
theorem vE : ∀ (e : E) (δ : Env) (g : Nat) (Q : Post) (R : XPost) (r : Rz VD), eE Ψ sub e δ = some r → rok r Q R δ g → wE Φ sub e δ g Q R
  | .var i, δ, g, Q, R, r, h, q => by
    unfold eE at h; unfold wE
    split at h
    · rename_i v e; cases h; exact ⟨v, e, q⟩
    · cases h
  | .peek i, δ, g, Q, R, r, h, q => by
    unfold eE at h; unfold wE
    split at h
    · rename_i v e; cases h; exact ⟨v, e, q⟩
    · cases h
  | .cst d, δ, g, Q, R, r, h, q => by unfold eE at h; unfold wE; cases h; exact q
  | .glo x d, δ, g, Q, R, r, h, q => by unfold eE at h; unfold wE; cases h; exact q
  | .tup es, δ, g, Q, R, r, h, q => by
    unfold eE at h; unfold wE
    refine bR_elim h (fun vs h1 h2 => vEs es δ g _ R _ h1 ?_) (fun c fs h1 h2 => vEs es δ g _ R _ h1 (by subst h2; exact q))
    split at h2
    · rename_i xs ex
      split at h2
      · rename_i hl; cases h2; exact ⟨xs, ex, hl, q⟩
      · cases h2
    · cases h2
  | .lst es, δ, g, Q, R, r, h, q => by
    unfold eE at h; unfold wE
    refine bR_elim h (fun vs h1 h2 => vEs es δ g _ R _ h1 ?_) (fun c fs h1 h2 => vEs es δ g _ R _ h1 (by subst h2; exact q))
    split at h2
    · rename_i xs ex
      split at h2
      · rename_i hl; cases h2; exact ⟨xs, ex, hl, q⟩
      · cases h2
    · cases h2
  | .dic, δ, g, Q, R, r, h, q => by unfold eE at h; unfold wE; cases h; exact q
  | .bin o a b, δ, g, Q, R, r, h, q => by
    unfold eE at h; unfold wE
    refine bR_elim h (fun x h1 h2 => vE a δ g _ R _ h1 ?_) (fun c fs h1 h2 => vE a δ g _ R _ h1 (by subst h2; exact q))
    refine bR_elim h2 (fun y h3 h4 => vE b δ g _ R _ h3 ?_) (fun c fs h1 h2 => vE b δ g _ R _ h1 (by subst h2; exact q))
    obtain ⟨z, e, e2⟩ := map_elim h4
    subst e2
    exact ⟨z, e, q⟩
  | .cmp o a b, δ, g, Q, R, r, h, q => by
    unfold eE at h; unfold wE
    refine bR_elim h (fun x h1 h2 => vE a δ g _ R _ h1 ?_) (fun c fs h1 h2 => vE a δ g _ R _ h1 (by subst h2; exact q))
    refine bR_elim h2 (fun y h3 h4 => vE b δ g _ R _ h3 ?_) (fun c fs h1 h2 => vE b δ g _ R _ h1 (by subst h2; exact q))
    obtain ⟨z, e, e2⟩ := map_elim h4
    subst e2
    exact ⟨z, e, q⟩
  | .and2 a b, δ, g, Q, R, r, h, q => by
    unfold eE at h; unfold wE
    refine bR_elim h (fun x h1 h2 => vE a δ g _ R _ h1 ?_) (fun c fs h1 h2 => vE a δ g _ R _ h1 (by subst h2; exact q))
    split at h2
    · rename_i e; exact ⟨true, bD_inv e, by rw [if_pos rfl]; exact vE b δ g Q R r h2 q⟩
    · rename_i e; cases h2; exact ⟨false, bD_inv e, by rw [if_neg (by decide)]; exact q⟩
    · cases h2
  | .or2 a b, δ, g, Q, R, r, h, q => by
    unfold eE at h; unfold wE
    refine bR_elim h (fun x h1 h2 => vE a δ g _ R _ h1 ?_) (fun c fs h1 h2 => vE a δ g _ R _ h1 (by subst h2; exact q))
    split at h2
    · rename_i e; cases h2; exact ⟨true, bD_inv e, by rw [if_pos rfl]; exact q⟩
    · rename_i e; exact ⟨false, bD_inv e, by rw [if_neg (by decide)]; exact vE b δ g Q R r h2 q⟩
    · cases h2
  | .one a, δ, g, Q, R, r, h, q => by unfold eE at h; unfold wE; exact vE a δ g Q R r h q
  | .not1 a, δ, g, Q, R, r, h, q => by
    unfold eE at h; unfold wE
    refine bR_elim h (fun x h1 h2 => vE a δ g _ R _ h1 ?_) (fun c fs h1 h2 => vE a δ g _ R _ h1 (by subst h2; exact q))
    obtain ⟨c, e, e2⟩ := map_elim h2
    subst e2
    exact ⟨c, bD_inv e, q⟩
  | .ite t a b, δ, g, Q, R, r, h, q => by
    unfold eE at h; unfold wE
    refine bR_elim h (fun c h1 h2 => vT t δ g _ R _ h1 ?_) (fun c fs h1 h2 => vT t δ g _ R _ h1 (by subst h2; exact q))
    show (if c = true then _ else _)
    cases c
    · exact vE b δ g Q R r h2 q
    · exact vE a δ g Q R r h2 q
  | .sub a i, δ, g, Q, R, r, h, q => by
    unfold eE at h; unfold wE
    refine bR_elim h (fun x h1 h2 => vE a δ g _ R _ h1 ?_) (fun c fs h1 h2 => vE a δ g _ R _ h1 (by subst h2; exact q))
    refine bR_elim h2 (fun y h3 h4 => vE i δ g _ R _ h3 ?_) (fun c fs h1 h2 => vE i δ g _ R _ h1 (by subst h2; exact q))
    obtain ⟨z, e, e2⟩ := map_elim h4
    subst e2
    exact ⟨z, e, q⟩
  | .sli a lo hi, δ, g, Q, R, r, h, q => by
    unfold eE at h; unfold wE
    refine bR_elim h (fun x h1 h2 => vE a δ g _ R _ h1 ?_) (fun c fs h1 h2 => vE a δ g _ R _ h1 (by subst h2; exact q))
    refine bR_elim h2 (fun y h3 h4 => vO lo δ g _ R _ h3 ?_) (fun c fs h1 h2 => vO lo δ g _ R _ h1 (by subst h2; exact q))
    refine bR_elim h4 (fun y h5 h6 => vO hi δ g _ R _ h5 ?_) (fun c fs h1 h2 => vO hi δ g _ R _ h1 (by subst h2; exact q))
    obtain ⟨z, e, e2⟩ := map_elim h6
    subst e2
    exact ⟨z, e, q⟩
  | .call f es, δ, g, Q, R, r, h, q => by
    unfold eE at h; unfold wE
    refine bR_elim h (fun vs h1 h2 => vEs es δ g _ R _ h1 ?_) (fun c fs h1 h2 => vEs es δ g _ R _ h1 (by subst h2; exact q))
    exact hΨ f vs r h2 g _ _ (by cases r <;> exact q)
  | .blt b es, δ, g, Q, R, r, h, q => by
    unfold eE at h; unfold wE
    refine bR_elim h (fun vs h1 h2 => vEs es δ g _ R _ h1 ?_) (fun c fs h1 h2 => vEs es δ g _ R _ h1 (by subst h2; exact q))
    obtain ⟨z, e, e2⟩ := map_elim h2
    subst e2
    exact ⟨z, e, q⟩
  | .isi a t, δ, g, Q, R, r, h, q => by
    unfold eE at h; unfold wE
    refine bR_elim h (fun x h1 h2 => vE a δ g _ R _ h1 ?_) (fun c fs h1 h2 => vE a δ g _ R _ h1 (by subst h2; exact q))
    split at h2
    · rename_i y e
      obtain ⟨z, e3, e2⟩ := map_elim h2
      subst e2
      exact ⟨y, z, lD_inv e, e3, q⟩
    · cases h2
  | .isx i c, δ, g, Q, R, r, h, q => by
    unfold eE at h; unfold wE
    split at h
    · rename_i c' fs e; cases h; exact ⟨c', fs, e, q⟩
    · cases h
  | .fld i f, δ, g, Q, R, r, h, q => by
    unfold eE at h; unfold wE
    split at h
    · rename_i c' fs e
      obtain ⟨x, e3, e2⟩ := map_elim h
      subst e2
      exact ⟨c', fs, x, e, e3, q⟩
    · cases h
  | .draw i m, δ, g, Q, R, r, h, q => by unfold eE at h; cases h
  | .cnt a k x, δ, g, Q, R, r, h, q => by
    unfold eE at h; unfold wE
    refine bR_elim h (fun y h1 h2 => vE a δ g _ R _ h1 ?_) (fun c fs h1 h2 => vE a δ g _ R _ h1 (by subst h2; exact q))
    refine bR_elim h2 (fun y2 h3 h4 => vE k δ g _ R _ h3 ?_) (fun c fs h1 h2 => vE k δ g _ R _ h1 (by subst h2; exact q))
    split at h4
    · rename_i xs i
      split at h4
      · rename_i hc
        refine ⟨xs, i, rfl, rfl, hc.1, hc.2.1, hc.2.2, ?_⟩
        refine bR_elim h4 (fun z h5 h6 => vE x δ g _ R _ h5 ?_) (fun c fs h1 h2 => vE x δ g _ R _ h1 (by subst h2; exact q))
        split at h6
        · rename_i d e
          split at h6
          · rename_i hd; cases h6; exact ⟨d, lD_inv e, hd.1, hd.2, q⟩
          · cases h6
        · cases h6
      · cases h4
    · cases h4
  | .comp elt tg it t, δ, g, Q, R, r, h, q => by
    unfold eE at h; unfold wE
    refine bR_elim h (fun xs h1 h2 => vIt it δ g _ R _ h1 ?_) (fun c fs h1 h2 => vIt it δ g _ R _ h1 (by subst h2; exact q))
    obtain ⟨ys, e3, e2⟩ := map_elim h2
    subst e2
    refine compE_ok (fun x o g1 P he hp => ?_) e3 q
    split at he
    · rename_i δ1 ea
      refine ⟨δ1, ea, ?_⟩
      split at he
      · rename_i et
        refine vTO t δ1 g1 _ _ _ (pureR_inv et) ?_
        simp only [rok, if_true]
        split at he
        · rename_i z ez
          cases he
          obtain ⟨v, ev, el⟩ := Option.bind_eq_some_iff.mp ez
          exact vE elt δ1 g1 _ _ _ (pureR_inv ev) ⟨z, lD_inv el, hp⟩
        · cases he
      · rename_i et
        cases he
        exact vTO t δ1 g1 _ _ _ (pureR_inv et) (by simp only [rok, Bool.false_eq_true, if_false]; exact hp)
      · cases he
    · cases he
theorem vEs : ∀ (e : Es) (δ : Env) (g : Nat) (Q : List VD → Nat → Prop) (R : XPost) (r : Rz (List VD)), eEs Ψ sub e δ = some r → rok r Q R δ g → wEs Φ sub e δ g Q R
  | .nil, δ, g, Q, R, r, h, q => by unfold eEs at h; unfold wEs; cases h; exact q
  | .cons e r0, δ, g, Q, R, r, h, q => by
    unfold eEs at h; unfold wEs
    refine bR_elim h (fun x h1 h2 => vE e δ g _ R _ h1 ?_) (fun c fs h1 h2 => vE e δ g _ R _ h1 (by subst h2; exact q))
    refine bR_elim h2 (fun y h3 h4 => vEs r0 δ g _ R _ h3 ?_) (fun c fs h1 h2 => vEs r0 δ g _ R _ h1 (by subst h2; exact q))
    cases h4
    exact q
theorem vO : ∀ (e : O) (δ : Env) (g : Nat) (Q : Option Int → Nat → Prop) (R : XPost) (r : Rz (Option Int)), eO Ψ sub e δ = some r → rok r Q R δ g → wO Φ sub e δ g Q R
  | .non, δ, g, Q, R, r, h, q => by unfold eO at h; unfold wO; cases h; exact q
  | .som e, δ, g, Q, R, r, h, q => by
    unfold eO at h; unfold wO
    refine bR_elim h (fun x h1 h2 => vE e δ g _ R _ h1 ?_) (fun c fs h1 h2 => vE e δ g _ R _ h1 (by subst h2; exact q))
    obtain ⟨c, e1, e2⟩ := map_elim h2
    subst e2
    exact ⟨c, iD_inv e1, q⟩
theorem vT : ∀ (t : T) (δ : Env) (g : Nat) (Q : Bool → Nat → Prop) (R : XPost) (r : Rz Bool), eT Ψ sub t δ = some r → rok r Q R δ g → wT Φ sub t δ g Q R
  | .val e, δ, g, Q, R, r, h, q => by
    unfold eT at h; unfold wT
    refine bR_elim h (fun x h1 h2 => vE e δ g _ R _ h1 ?_) (fun c fs h1 h2 => vE e δ g _ R _ h1 (by subst h2; exact q))
    obtain ⟨c, e1, e2⟩ := map_elim h2
    subst e2
    exact ⟨c, bD_inv e1, q⟩
  | .cmp o a b, δ, g, Q, R, r, h, q => by
    unfold eT at h; unfold wT
    refine bR_elim h (fun x h1 h2 => vE a δ g _ R _ h1 ?_) (fun c fs h1 h2 => vE a δ g _ R _ h1 (by subst h2; exact q))
    refine bR_elim h2 (fun y h3 h4 => vE b δ g _ R _ h3 ?_) (fun c fs h1 h2 => vE b δ g _ R _ h1 (by subst h2; exact q))
    obtain ⟨z, e, e2⟩ := map_elim h4
    subst e2
    exact ⟨z, e, q⟩
  | .and2 a b, δ, g, Q, R, r, h, q => by
    unfold eT at h; unfold wT
    refine bR_elim h (fun c h1 h2 => vT a δ g _ R _ h1 ?_) (fun c fs h1 h2 => vT a δ g _ R _ h1 (by subst h2; exact q))
    show (if c = true then _ else _)
    cases c
    · cases h2; exact q
    · exact vT b δ g Q R r h2 q
  | .or2 a b, δ, g, Q, R, r, h, q => by
    unfold eT at h; unfold wT
    refine bR_elim h (fun c h1 h2 => vT a δ g _ R _ h1 ?_) (fun c fs h1 h2 => vT a δ g _ R _ h1 (by subst h2; exact q))
    show (if c = true then _ else _)
    cases c
    · exact vT b δ g Q R r h2 q
    · cases h2; exact q
  | .one a, δ, g, Q, R, r, h, q => by unfold eT at h; unfold wT; exact vT a δ g Q R r h q
  | .not1 a, δ, g, Q, R, r, h, q => by
    unfold eT at h; unfold wT
    refine bR_elim h (fun c h1 h2 => vT a δ g _ R _ h1 ?_) (fun c fs h1 h2 => vT a δ g _ R _ h1 (by subst h2; exact q))
    cases h2
    exact q
theorem vTO : ∀ (t : TO) (δ : Env) (g : Nat) (Q : Bool → Nat → Prop) (R : XPost) (r : Rz Bool), eTO Ψ sub t δ = some r → rok r Q R δ g → wTO Φ sub t δ g Q R
  | .non, δ, g, Q, R, r, h, q => by unfold eTO at h; unfold wTO; cases h; exact q
  | .som t, δ, g, Q, R, r, h, q => by unfold eTO at h; unfold wTO; exact vT t δ g Q R r h q
theorem vIt : ∀ (t : It) (δ : Env) (g : Nat) (Q : List PyData → Nat → Prop) (R : XPost) (r : Rz (List PyData)), eIt Ψ sub t δ = some r → rok r Q R δ g → wIt Φ sub t δ g Q R
  | .seq e, δ, g, Q, R, r, h, q => by
    unfold eIt at h; unfold wIt
    refine bR_elim h (fun x h1 h2 => vE e δ g _ R _ h1 ?_) (fun c fs h1 h2 => vE e δ g _ R _ h1 (by subst h2; exact q))
    obtain ⟨c, e1, e2⟩ := map_elim h2
    subst e2
    exact ⟨c, e1, q⟩
  | .rng e, δ, g, Q, R, r, h, q => by
    unfold eIt at h; unfold wIt
    refine bR_elim h (fun x h1 h2 => vE e δ g _ R _ h1 ?_) (fun c fs h1 h2 => vE e δ g _ R _ h1 (by subst h2; exact q))
    obtain ⟨c, e1, e2⟩ := map_elim h2
    subst e2
    exact ⟨c, e1, q⟩
  | .enum e, δ, g, Q, R, r, h, q => by
    unfold eIt at h; unfold wIt
    refine bR_elim h (fun x h1 h2 => vE e δ g _ R _ h1 ?_) (fun c fs h1 h2 => vE e δ g _ R _ h1 (by subst h2; exact q))
    obtain ⟨c, e1, e2⟩ := map_elim h2
    subst e2
    exact ⟨c, e1, q⟩
end
end
end NC

set_option Elab.async false
set_option linter.all false
set_option maxRecDepth 100000
set_option maxHeartbeats 1000000
namespace NC
open PySem
def fok (r : Fl) (D : SEnds) (R : XPost) (g : Nat) : Prop := match r with
  | .nx δ => D.nx δ g
  | .rt v => D.rt v g
  | .ex c fs δ => R c fs δ g
theorem xF_elim {α : Type} {m : Option (Rz α)} {δ : Env} {f : α → Option Fl} {r : Fl} {P : Prop} (h : xF m δ f = some r) (h1 : ∀ a, m = some (.ok a) → f a = some r → P) (h2 : ∀ c fs, m = some (.ex c fs) → r = .ex c fs δ → P) : P := by
  unfold xF at h
  split at h
  · exact h1 _ rfl h
  · cases h; exact h2 _ _ rfl rfl
  · cases h
theorem forE_ok {f : PyData → Env → Option Fl} {w : PyData → Env → Nat → SEnds → Prop} {R : XPost} (hw : ∀ x δ r g D, f x δ = some r → fok r D R g → w x δ g D) : ∀ {xs : List PyData} {δ : Env} {r : Fl} {g : Nat} {D : SEnds}, forE f xs δ = some r → fok r D R g → forW w xs δ g D
  | [], δ, r, g, D, h, q => by cases h; exact q
  | x :: rs, δ, r, g, D, h, q => by
    unfold forE at h
    unfold forW
    split at h
    · rename_i δ' e
      exact hw x δ _ g _ e (forE_ok hw h q)
    · rename_i hn
      refine hw x δ r g _ h ?_
      cases r with
      | nx δ' => exact absurd h (hn δ')
      | rt v => exact q
      | ex c fs δ' => exact q
section
variable {Ψ : PC} {Φ : Calls} {sub : Nat → Nat → Bool} (hΨ : PSound Ψ Φ)
include hΨ
mutual
theorem vS : ∀ (s : S) (δ : Env) (g : Nat) (D : SEnds) (R : XPost) (r : Fl), eS Ψ sub s δ = some r → fok r D R g → wS Φ sub s δ g D R
  | .asg tg e, δ, g, D, R, r, h, q => by
    unfold eS at h; unfold wS
    refine xF_elim h (fun v h1 h2 => vE hΨ e δ g _ _ _ h1 ?_) (fun c fs h1 h2 => vE hΨ e δ g _ _ _ h1 (by subst h2; exact q))
    obtain ⟨δ', e1, e2⟩ := map_elim h2
    subst e2
    exact ⟨δ', e1, q⟩
  | .par i j a b, δ, g, D, R, r, h, q => by
    unfold eS at h; unfold wS
    refine xF_elim h (fun v h1 h2 => vE hΨ a δ g _ _ _ h1 ?_) (fun c fs h1 h2 => vE hΨ a δ g _ _ _ h1 (by subst h2; exact q))
    refine xF_elim h2 (fun v2 h3 h4 => vE hΨ b δ g _ _ _ h3 ?_) (fun c fs h1 h2 => vE hΨ b δ g _ _ _ h1 (by subst h2; exact q))
    cases h4
    exact q
  | .own i e, δ, g, D, R, r, h, q => by
    unfold eS at h; unfold wS
    refine xF_elim h (fun v h1 h2 => vE hΨ e δ g _ _ _ h1 ?_) (fun c fs h1 h2 => vE hΨ e δ g _ _ _ h1 (by subst h2; exact q))
    split at h2
    · rename_i ds; cases h2; exact ⟨ds, rfl, q⟩
    · cases h2
  | .app i e, δ, g, D, R, r, h, q => by
    unfold eS at h; unfold wS
    split at h
    · rename_i ds ed
      refine ⟨ds, ed, xF_elim h (fun v h1 h2 => vE hΨ e δ g _ _ _ h1 ?_) (fun c fs h1 h2 => vE hΨ e δ g _ _ _ h1 (by subst h2; exact q))⟩
      split at h2
      · rename_i x ex
        split at h2
        · rename_i hl; cases h2; exact ⟨x, lD_inv ex, hl, q⟩
        · cases h2
      · cases h2
    · cases h
  | .ins i a e, δ, g, D, R, r, h, q => by unfold eS at h; cases h
  | .ifs t a b, δ, g, D, R, r, h, q => by
    unfold eS at h; unfold wS
    refine xF_elim h (fun c h1 h2 => vT hΨ t δ g _ _ _ h1 ?_) (fun c fs h1 h2 => vT hΨ t δ g _ _ _ h1 (by subst h2; exact q))
    show (if c = true then _ else _)
    cases c
    · exact vSs b δ g D R r h2 q
    · exact vSs a δ g D R r h2 q
  | .forS tg it b, δ, g, D, R, r, h, q => by
    unfold eS at h; unfold wS
    refine xF_elim h (fun xs h1 h2 => vIt hΨ it δ g _ _ _ h1 ?_) (fun c fs h1 h2 => vIt hΨ it δ g _ _ _ h1 (by subst h2; exact q))
    refine forE_ok (R := R) (fun x δ1 r1 g1 D1 he hq => ?_) h2 q
    split at he
    · rename_i δ2 ea; exact ⟨δ2, ea, vSs b δ2 g1 D1 R r1 he hq⟩
    · cases he
  | .ret e, δ, g, D, R, r, h, q => by
    unfold eS at h; unfold wS
    refine xF_elim h (fun v h1 h2 => vE hΨ e δ g _ _ _ h1 ?_) (fun c fs h1 h2 => vE hΨ e δ g _ _ _ h1 (by subst h2; exact q))
    cases h2
    exact q
  | .rse c f e, δ, g, D, R, r, h, q => by
    unfold eS at h; unfold wS
    refine xF_elim h (fun v h1 h2 => vE hΨ e δ g _ _ _ h1 ?_) (fun c fs h1 h2 => vE hΨ e δ g _ _ _ h1 (by subst h2; exact q))
    split at h2
    · rename_i x ex; cases h2; exact ⟨x, lD_inv ex, q⟩
    · cases h2
  | .tryS b c i j, δ, g, D, R, r, h, q => by
    unfold eS at h; unfold wS
    split at h
    · rename_i c' fs δ' e
      refine vSs b δ g D _ _ e ?_
      show (if sub c' c = true then _ else _)
      split at h
      · rename_i hs; cases h; rw [if_pos hs]; exact q
      · rename_i hs; cases h; rw [if_neg hs]; exact q
    · rename_i hn
      refine vSs b δ g D _ r h ?_
      cases r with
      | nx δ' => exact q
      | rt v => exact q
      | ex c2 fs δ' => exact absurd h (hn c2 fs δ')
  | .frz i, δ, g, D, R, r, h, q => by
    unfold eS at h; unfold wS
    obtain ⟨δ', e1, e2⟩ := map_elim h
    subst e2
    exact ⟨δ', e1, q⟩
theorem vSs : ∀ (s : Ss) (δ : Env) (g : Nat) (D : SEnds) (R : XPost) (r : Fl), eSs Ψ sub s δ = some r → fok r D R g → wSs Φ sub s δ g D R
  | .nil, δ, g, D, R, r, h, q => by unfold eSs at h; unfold wSs; cases h; exact q
  | .cons s r0, δ, g, D, R, r, h, q => by
    unfold eSs at h; unfold wSs
    split at h
    · rename_i δ' e
      exact vS s δ g _ R _ e (vSs r0 δ' g D R r h q)
    · rename_i hn
      refine vS s δ g _ R r h ?_
      cases r with
      | nx δ' => exact absurd h (hn δ')
      | rt v => exact q
      | ex c fs δ' => exact q
end
end
theorem eC_ok (fns : List Fn) (sub : Nat → Nat → Bool) : ∀ k, PSound (eC fns sub k) (calls fns sub k)
  | 0 => fun f vs r h => by cases h
  | k + 1 => fun f vs r h g Q R q => by
    unfold eC at h
    split at h
    · rename_i fn ef
      split at h
      · rename_i hl
        refine ⟨fn, ef, hl, ?_⟩
        split at h
        · rename_i e; cases h; exact vSs (eC_ok fns sub k) fn.body _ g _ _ _ e q
        · rename_i e; cases h; exact vSs (eC_ok fns sub k) fn.body _ g _ _ _ e q
        · rename_i e; cases h; exact vSs (eC_ok fns sub k) fn.body _ g _ _ _ e q
        · cases h
      · cases h
    · cases h
end NC

set_option Elab.async false
set_option linter.all false
set_option maxRecDepth 100000
set_option maxHeartbeats 0
namespace K52
open PySem NC
/-- is_word: 0=thing 1=words -/
def f0 : Fn := ⟨2, 2, ss [
  .ret (.and2 (.isi (.var 0) "str") (.one (.cmp .isin (.var 0) (.var 1))))]⟩
/-- acts_fault: 0=acts 1=number 2=act 3=most -/
def f1 : Fn := ⟨1, 4, ss [
  .ifs (.or2 (.not1 (.val (.isi (.var 0) "tuple"))) (.one (.cmp .gt (.blt .len (es [(.var 0)])) (.glo "MOST_ACTS" (.int 8))))) (ss [.ret (.tup (es [(.cst (.int 4))]))]) (ss []),
  .forS (.pair 1 2) (.enum (.var 0)) (ss [.asg (.name 3) (.ite (.cmp .eq (.var 2) (.glo "POINT" (.str "point"))) (.cst (.int 1)) (.cst (.int 2))), .ifs (.or2 (.not1 (.val (.call 0 (es [(.var 2), (.glo "WORDS" (.tuple [(.str "seal"), (.str "hold"), (.str "free"), (.str "copy"), (.str "catch"), (.str "both"), (.str "tell"), (.str "point"), (.str "drain"), (.str "drop")]))])))) (.one (.cmp .ge (.cnt (.var 0) (.var 1) (.var 2)) (.var 3)))) (ss [.ret (.tup (es [(.cst (.int 4)), (.var 1)]))]) (ss [])]),
  .ret (.ite (.cmp .isin (.glo "POINT" (.str "point")) (.var 0)) (.cst .none) (.tup (es [(.cst (.int 4))])))]⟩
/-- need_manner: 0=thing 1=place 2=number 3=words -/
def f2 : Fn := ⟨1, 4, ss [
  .ifs (.or2 (.not1 (.val (.isi (.var 0) "tuple"))) (.one (.cmp .ne (.blt .len (es [(.var 0)])) (.cst (.int 5))))) (ss [.rse 1 "place" (.tup (es []))]) (ss []),
  .forS (.pair 2 3) (.enum (.glo "KINDS" (.tuple [(.tuple [(.str "any"), (.str "own"), (.str "now")]), (.tuple [(.str "on"), (.str "off")]), (.tuple [(.str "list"), (.str "whole"), (.str "next")]), (.tuple [(.str "never"), (.str "own"), (.str "edition")])]))) (ss [.ifs (.not1 (.val (.call 0 (es [(.sub (.var 0) (.var 2)), (.var 3)])))) (ss [.rse 1 "place" (.tup (es [(.var 2)]))]) (ss [])]),
  .asg (.name 1) (.call 1 (es [(.sub (.var 0) (.cst (.int 4)))])),
  .ifs (.cmp .isnot (.var 1) (.cst .none)) (ss [.rse 1 "place" (.var 1)]) (ss []),
  .ret (.var 0)]⟩
/-- _law_of: 0=_law_state 1=_law_some -/
def f3 : Fn := ⟨2, 2, ss [
  .ret (.sub (.var 1) (.draw 0 (.blt .len (es [(.var 1)]))))]⟩
/-- _law_words: 0=_law_found 1=_law_acts -/
def f4 : Fn := ⟨0, 2, ss [
  .asg (.name 0) (.lst (es [(.lst (es [(.cst (.str "any")), (.cst (.str "own")), (.cst (.str "now"))])), (.lst (es [(.cst (.str "on")), (.cst (.str "off"))])), (.lst (es [(.cst (.str "list")), (.cst (.str "whole")), (.cst (.str "next"))])), (.lst (es [(.cst (.str "never")), (.cst (.str "own")), (.cst (.str "edition"))]))])),
  .asg (.name 1) (.lst (es [(.cst (.str "seal")), (.cst (.str "hold")), (.cst (.str "free")), (.cst (.str "copy")), (.cst (.str "catch")), (.cst (.str "both")), (.cst (.str "tell")), (.cst (.str "point")), (.cst (.str "drain")), (.cst (.str "drop"))])),
  .ret (.tup (es [(.var 0), (.var 1)]))]⟩
/-- _law_wrong: 0=_law_thing 1=_law_k 2=_law_words_here 3=_law_acts 4=_law_act 5=_law_elder 6=_law_word 7=_law_own -/
def f5 : Fn := ⟨1, 8, ss [
  .asg (.pair 2 3) (.call 4 (es [])),
  .ifs (.or2 (.not1 (.val (.isi (.var 0) "tuple"))) (.one (.cmp .ne (.blt .len (es [(.var 0)])) (.cst (.int 5))))) (ss [.ret (.lst (es [(.tup (es []))]))]) (ss []),
  .forS (.name 1) (.rng (.cst (.int 4))) (ss [.ifs (.cmp .eq (.comp (.var 6) (.name 6) (.seq (.sub (.var 2) (.var 1))) (.som (.cmp .eq (.blt .repr (es [(.var 6)])) (.blt .repr (es [(.sub (.var 0) (.var 1))]))))) (.lst (es []))) (ss [.ret (.lst (es [(.tup (es [(.var 1)]))]))]) (ss [])]),
  .ifs (.or2 (.not1 (.val (.isi (.sub (.var 0) (.cst (.int 4))) "tuple"))) (.one (.cmp .gt (.blt .len (es [(.sub (.var 0) (.cst (.int 4)))])) (.cst (.int 8))))) (ss [.ret (.lst (es [(.tup (es [(.cst (.int 4))]))]))]) (ss []),
  .forS (.pair 1 4) (.enum (.sub (.var 0) (.cst (.int 4)))) (ss [.asg (.name 5) (.blt .len (es [(.comp (.var 7) (.name 7) (.seq (.sli (.sub (.var 0) (.cst (.int 4))) .non (.som (.var 1)))) (.som (.cmp .eq (.blt .repr (es [(.var 7)])) (.blt .repr (es [(.var 4)])))))])), .ifs (.or2 (.cmp .notin (.blt .repr (es [(.var 4)])) (.comp (.blt .repr (es [(.var 6)])) (.name 6) (.seq (.var 3)) .non)) (.one (.cmp .ge (.var 5) (.ite (.cmp .eq (.var 4) (.cst (.str "point"))) (.cst (.int 1)) (.cst (.int 2)))))) (ss [.ret (.lst (es [(.tup (es [(.cst (.int 4)), (.var 1)]))]))]) (ss [])]),
  .ret (.ite (.cmp .isin (.cst (.str "point")) (.sub (.var 0) (.cst (.int 4)))) (.lst (es [])) (.lst (es [(.tup (es [(.cst (.int 4))]))])))]⟩
/-- _law_right: 0=_law_thing 1=_law_turn 2=_law_wrong_here 3=_law_kept 4=e 5=_law_found 6=_law_caught -/
def f6 : Fn := ⟨1, 7, ss [
  .par 2 3 (.call 5 (es [(.var 0)])) (.blt .repr (es [(.var 0)])),
  .forS (.name 1) (.rng (.cst (.int 2))) (ss [.asg (.pair 5 6) (.tup (es [(.cst .none), (.cst .none)])), .tryS (ss [.asg (.name 5) (.call 2 (es [(.var 0)]))]) 0 4 6, .ifs (.and2 (.cmp .is (.var 6) (.cst .none)) (.one (.or2 (.cmp .ne (.var 2) (.lst (es []))) (.one (.cmp .ne (.blt .repr (es [(.var 5)])) (.var 3)))))) (ss [.ret (.cst (.bool false))]) (ss []), .ifs (.and2 (.cmp .isnot (.var 6) (.cst .none)) (.one (.or2 (.not1 (.val (.isx 6 1))) (.one (.cmp .ne (.lst (es [(.fld 6 "place")])) (.var 2)))))) (ss [.ret (.cst (.bool false))]) (ss [])]),
  .ret (.cmp .eq (.blt .repr (es [(.var 0)])) (.var 3))]⟩
/-- _law_manner: 0=_law_state 1=_law_rows 2=_law_kept 3=_law_act 4=_law_words_here 5=_law_acts 6=_law_k 7=_law_some 8=_law_own -/
def f7 : Fn := ⟨1, 9, ss [
  .asg (.pair 4 5) (.call 4 (es [])),
  .asg (.name 1) (.comp (.call 3 (es [(.var 0), (.var 5)])) (.name 6) (.rng (.draw 0 (.cst (.int 8)))) .non),
  .own 2 (.lst (es [])),
  .forS (.name 3) (.seq (.var 1)) (ss [.ifs (.and2 (.cmp .ne (.var 3) (.cst (.str "point"))) (.one (.cmp .lt (.blt .len (es [(.comp (.var 8) (.name 8) (.seq (.peek 2)) (.som (.cmp .eq (.var 8) (.var 3))))])) (.cst (.int 2))))) (ss [.app 2 (.var 3)]) (ss [])]),
  .ins 2 (.draw 0 (.bin .add (.blt .len (es [(.peek 2)])) (.cst (.int 1)))) (.cst (.str "point")),
  .ret (.bin .add (.blt .tuple (es [(.comp (.call 3 (es [(.var 0), (.var 7)])) (.name 7) (.seq (.var 4)) .non)])) (.tup (es [(.blt .tuple (es [(.peek 2)]))])))]⟩
/-- _law_bent: 0=_law_state 1=_law_thing 2=_law_odd 3=_law_at 4=_law_choice -/
def f8 : Fn := ⟨2, 5, ss [
  .asg (.name 2) (.call 3 (es [(.var 0), (.lst (es [(.cst .none), (.cst (.int 5)), (.cst (.bool true)), (.cst (.str "")), (.cst (.str "point")), (.cst (.str "Point")), (.cst (.str "own")), (.tup (es [(.cst (.str "own"))])), (.lst (es [(.cst (.str "own"))])), .dic, (.cst (.str "drop")), (.cst (.str "list")), (.tup (es []))]))])),
  .par 3 4 (.draw 0 (.bin .add (.blt .len (es [(.var 1)])) (.cst (.int 1)))) (.draw 0 (.cst (.int 5))),
  .ifs (.cmp .eq (.var 4) (.cst (.int 0))) (ss [.ret (.bin .add (.sli (.var 1) .non (.som (.var 3))) (.sli (.var 1) (.som (.bin .add (.var 3) (.cst (.int 1)))) .non))]) (ss []),
  .ifs (.cmp .eq (.var 4) (.cst (.int 1))) (ss [.ret (.bin .add (.bin .add (.sli (.var 1) .non (.som (.var 3))) (.tup (es [(.var 2)]))) (.sli (.var 1) (.som (.var 3)) .non))]) (ss []),
  .ifs (.cmp .eq (.var 4) (.cst (.int 2))) (ss [.ret (.bin .add (.bin .add (.sli (.var 1) .non (.som (.var 3))) (.bin .mul (.sli (.var 1) (.som (.var 3)) (.som (.bin .add (.var 3) (.cst (.int 1))))) (.cst (.int 2)))) (.sli (.var 1) (.som (.bin .add (.var 3) (.cst (.int 1)))) .non))]) (ss []),
  .ret (.bin .add (.bin .add (.sli (.var 1) .non (.som (.var 3))) (.tup (es [(.var 2)]))) (.sli (.var 1) (.som (.bin .add (.var 3) (.cst (.int 1)))) .non))]⟩
/-- law: 0=_law_script 1=_law_state 2=_law_turn 3=_law_thing 4=_law_manner_here 5=_law_again 6=_law_words_here 7=_law_acts 8=_law_bent_here 9=_law_some -/
def lawS : Ss := ss [
  .forS (.name 2) (.rng (.bin .add (.cst (.int 5)) (.blt .min2 (es [(.cst (.int 10)), (.blt .len (es [(.var 0)]))])))) (ss [.asg (.name 4) (.call 7 (es [(.var 1)])), .ifs (.or2 (.cmp .ne (.call 5 (es [(.var 4)])) (.lst (es []))) (.one (.not1 (.val (.call 6 (es [(.var 4)])))))) (ss [.ret (.cst (.bool false))]) (ss []), .forS (.name 5) (.rng (.cst (.int 4))) (ss [.asg (.name 8) (.bin .add (.sli (.var 4) .non (.som (.cst (.int 4)))) (.tup (es [(.call 8 (es [(.var 1), (.sub (.var 4) (.cst (.int 4)))]))]))), .own 9 (.lst (es [(.var 8), (.call 8 (es [(.var 1), (.var 4)])), (.call 8 (es [(.var 1), (.var 8)])), (.blt .list (es [(.var 4)]))])), .app 9 (.bin .add (.sli (.var 4) .non (.som (.cst (.int 4)))) (.tup (es [(.blt .list (es [(.sub (.var 4) (.cst (.int 4)))]))]))), .ifs (.cmp .ne (.comp (.var 3) (.name 3) (.seq (.peek 9)) (.som (.not1 (.val (.call 6 (es [(.var 3)])))))) (.lst (es []))) (ss [.ret (.cst (.bool false))]) (ss [])])]),
  .forS (.name 3) (.seq (.tup (es [(.cst .none), (.cst (.int 5)), (.tup (es [])), (.cst (.str "any")), .dic, (.bin .mul (.tup (es [(.cst .none)])) (.cst (.int 5))), (.tup (es [(.cst (.str "any")), (.cst (.str "on")), (.cst (.str "list")), (.cst (.str "never")), (.bin .mul (.tup (es [(.cst (.str "point"))])) (.cst (.int 9)))]))]))) (ss [.ifs (.not1 (.val (.call 6 (es [(.var 3)])))) (ss [.ret (.cst (.bool false))]) (ss [])]),
  .asg (.pair 6 7) (.call 4 (es [])),
  .ret (.cmp .eq (.lst (es [(.glo "DOORS" (.tuple [(.str "any"), (.str "own"), (.str "now")])), (.glo "LEADS" (.tuple [(.str "on"), (.str "off")])), (.glo "HOWS" (.tuple [(.str "list"), (.str "whole"), (.str "next")])), (.glo "AGAINS" (.tuple [(.str "never"), (.str "own"), (.str "edition")])), (.glo "WORDS" (.tuple [(.str "seal"), (.str "hold"), (.str "free"), (.str "copy"), (.str "catch"), (.str "both"), (.str "tell"), (.str "point"), (.str "drain"), (.str "drop")]))])) (.comp (.blt .tuple (es [(.var 9)])) (.name 9) (.seq (.bin .add (.var 6) (.lst (es [(.var 7)])))) .non))]
def G : Gam := ⟨["is_word", "acts_fault", "need_manner", "_law_of", "_law_words", "_law_wrong", "_law_right", "_law_manner", "_law_bent"], ["CutError", "BadManner"], [("MOST_ACTS", (.int 8)), ("POINT", (.str "point")), ("WORDS", (.tuple [(.str "seal"), (.str "hold"), (.str "free"), (.str "copy"), (.str "catch"), (.str "both"), (.str "tell"), (.str "point"), (.str "drain"), (.str "drop")])), ("KINDS", (.tuple [(.tuple [(.str "any"), (.str "own"), (.str "now")]), (.tuple [(.str "on"), (.str "off")]), (.tuple [(.str "list"), (.str "whole"), (.str "next")]), (.tuple [(.str "never"), (.str "own"), (.str "edition")])])), ("DOORS", (.tuple [(.str "any"), (.str "own"), (.str "now")])), ("LEADS", (.tuple [(.str "on"), (.str "off")])), ("HOWS", (.tuple [(.str "list"), (.str "whole"), (.str "next")])), ("AGAINS", (.tuple [(.str "never"), (.str "own"), (.str "edition")]))], ["place"], [(1, "place")]⟩
def D : LD where
  prog := PySem.Challenge.pw_namedcuts_k52_manners_checked
  G := G
  fns := [f0, f1, f2, f3, f4, f5, f6, f7, f8]
  tbl := [[true, false], [true, true]]
  ixs := [31, 32, 33, 38, 39, 40, 41, 42, 43]
  nms := [["thing", "words"], ["acts", "number", "act", "most"], ["thing", "place", "number", "words"], ["_law_state", "_law_some"], ["_law_found", "_law_acts"], ["_law_thing", "_law_k", "_law_words_here", "_law_acts", "_law_act", "_law_elder", "_law_word", "_law_own"], ["_law_thing", "_law_turn", "_law_wrong_here", "_law_kept", "e", "_law_found", "_law_caught"], ["_law_state", "_law_rows", "_law_kept", "_law_act", "_law_words_here", "_law_acts", "_law_k", "_law_some", "_law_own"], ["_law_state", "_law_thing", "_law_odd", "_law_at", "_law_choice"]]
  mx := 35
  dr := 37
  bg := 36
  lw := 44
  lawN := ["_law_script", "_law_state", "_law_turn", "_law_thing", "_law_manner_here", "_law_again", "_law_words_here", "_law_acts", "_law_bent_here", "_law_some"]
  body := lawS
  inis := [(1, "place", 2, ["self", "place"])]
  cut := "CutError"
theorem sta : D.staB = true := by decide +kernel
end K52

set_option Elab.async false
set_option linter.all false
set_option maxRecDepth 100000
set_option maxHeartbeats 400000
namespace K52
open PySem NC
def isW (x : PyData) (ws : List PyData) : Bool := match x with
  | .str _ => ws.any fun z => PyData.eqv z x
  | _ => false
def okW (ws : List PyData) : Prop := SeqAt.shaped (.tuple ws) = true
def okX (x : PyData) : Prop := ∀ s, x = .str s → SeqAt.shaped x = true
theorem f0_ok {k g : Nat} {x : PyData} {ws : List PyData} {Q : Post} {R : Nat → List (Str × PyData) → Nat → Prop} (h1 : okW ws) (h2 : okX x) (q : Q (.d (.bool (isW x ws))) g) : calls D.fns D.sub (k + 1) 0 [.d x, .d (.tuple ws)] g Q R := by
  refine ⟨f0, rfl, rfl, ?_⟩
  simp only [f0, ss, wSs, wS, wE, List.map, List.append, Nat.sub_self, List.replicate, List.cons_append, List.nil_append]
  refine ⟨_, rfl, x, ?_⟩
  cases x with
  | str s =>
    refine ⟨true, rfl, rfl, true, rfl, ?_⟩
    simp only [if_true]
    refine ⟨_, rfl, _, rfl, _, ?_, q⟩
    simp only [cmpS, inS, h2 s rfl, show SeqAt.shaped (.tuple ws) = true from h1, Bool.and_self, if_true]
    rfl
  | _ => exact ⟨false, rfl, rfl, false, rfl, by simp only [Bool.false_eq_true, if_false]; exact q⟩
def txts (xs : List String) : List PyData := xs.map fun x => .str (Str.ofString x)
def kindsS : List (List String) := [["any", "own", "now"], ["on", "off"], ["list", "whole", "next"], ["never", "own", "edition"]]
def wordsS : List String := ["seal", "hold", "free", "copy", "catch", "both", "tell", "point", "drain", "drop"]
def foundD : PyData := .list (kindsS.map fun k => .list (txts k))
def actsD : PyData := .list (txts wordsS)
theorem f4_ok {k g : Nat} {Q : Post} {R : Nat → List (Str × PyData) → Nat → Prop} (q : Q (.d (.tuple [foundD, actsD])) g) : calls D.fns D.sub (k + 1) 4 [] g Q R := by
  refine ⟨f4, rfl, rfl, ?_⟩
  simp only [f4, ss, es, wSs, wS, wE, wEs, allD, asgT, Option.map, List.map, okLen, List.length, List.set, List.append, List.replicate, List.nil_append, Option.some.injEq, exists_eq_left', decide_eq_true_eq, VD.d.injEq]
  simp
  exact ⟨_, rfl, by simp, q⟩
theorem f3_ok {k g : Nat} {xs : List PyData} {Q : Post} {R : Nat → List (Str × PyData) → Nat → Prop} (h0 : xs ≠ []) (h1 : xs.length < 1000) (hg : g < 1000000) (q : ∀ x ∈ xs, Q (.d x) (g + 1)) : calls D.fns D.sub (k + 1) 3 [.sta, .d (.list xs)] g Q R := by
  refine ⟨f3, rfl, rfl, ?_⟩
  simp only [f3, ss, es, wSs, wS, wE, wEs]
  refine ⟨_, rfl, rfl, ⟨_, rfl, _, rfl, _, rfl, ?_, ?_, ?_, fun n h2 h3 => ?_⟩⟩
  · have := List.length_pos_iff.mpr h0; omega
  · omega
  · omega
  · have hn : n.toNat < xs.length := by omega
    refine ⟨xs[n.toNat], ?_, q _ (List.getElem_mem hn)⟩
    simp only [atS, L2.atI, L2.ixN, if_pos h2, if_pos h3, Option.bind_some, List.getElem?_eq_getElem hn]
end K52

set_option Elab.async false
set_option linter.all false
set_option maxRecDepth 100000
set_option maxHeartbeats 1000000
namespace K52
open PySem NC
def oddA : List PyData := [.none, .int 5, .bool true, .str "", .str "point", .str "Point", .str "own", .tuple [.str "own"], .list [.str "own"], .dict [], .str "drop", .str "list", .tuple []]
def atoms : List PyData := oddA ++ txts wordsS ++ txts ["any", "now", "on", "off", "whole", "next", "never", "edition"]
def rep (x : PyData) : Option PyData := bltS .repr [.d x]
theorem rep_at : ∀ x ∈ atoms, (x.showable && decide (x.depth ≤ 60) && okLen x.shown.length) = true := by decide +kernel
theorem w_rep : ∀ x ∈ atoms, (txts wordsS).any (fun w => decide (w.shown = x.shown)) = isW x (txts wordsS) := by decide +kernel
theorem w_inj : ∀ x ∈ txts wordsS, ∀ y ∈ txts wordsS, decide (x.shown = y.shown) = PyData.eqv x y := by decide +kernel
end K52

set_option Elab.async false
set_option linter.all false
set_option maxRecDepth 100000
set_option maxHeartbeats 1000000
namespace K52
open PySem NC
theorem e0 {k : Nat} {x : PyData} {ws : List PyData} (h1 : okW ws) (h2 : okX x) : eC D.fns D.sub (k + 1) 0 [.d x, .d (.tuple ws)] = some (.ok (.d (.bool (isW x ws)))) := by
  have h1 : SeqAt.shaped (.tuple ws) = true := h1
  cases x with
  | str s =>
    have h2 : SeqAt.shaped (.str s) = true := h2 s rfl
    simp [eC, D, f0, ss, eSs, eS, eE, bR, xF, lD, bD, isiS, cmpS, inS, h1, h2, isW]
  | _ => simp [eC, D, f0, ss, eSs, eS, eE, bR, xF, lD, bD, isiS, isW]
end K52
namespace K52
open PySem NC
def ptD : PyData := .str (Str.ofString "point")
def badA (ds : List PyData) (i : Nat) (x : PyData) : Bool := !(isW x (txts wordsS)) || decide ((if PyData.eqv x ptD = true then (1 : Int) else 2) ≤ (((ds.take i).countP fun z => PyData.eqv z x : Nat) : Int))
def loopA (ds : List PyData) : List PyData → Nat → Option Nat
  | [], _ => none
  | x :: r, i => if badA ds i x = true then some i else loopA ds r (i + 1)
def actsF (a : PyData) : PyData := match a with
  | .tuple ds => if 8 < ds.length then .tuple [.int 4] else match loopA ds ds 0 with
    | some i => .tuple [.int 4, .int (i : Nat)]
    | none => if (ds.any fun z => PyData.eqv z ptD) = true then .none else .tuple [.int 4]
  | _ => .tuple [.int 4]
theorem e1_non {k : Nat} {a : PyData} (h : ∀ ds, a ≠ .tuple ds) : eC D.fns D.sub (k + 1) 1 [.d a] = some (.ok (.d (actsF a))) := by
  cases a with
  | tuple ds => exact absurd rfl (h ds)
  | _ => simp [eC, D, f1, ss, es, eSs, eS, eE, eEs, eT, bR, xF, lD, bD, isiS, allD, okLen, actsF]
end K52

set_option Elab.async false
set_option linter.all false
set_option maxRecDepth 100000
set_option maxHeartbeats 1000000
namespace K52
open PySem NC
theorem at_ok : ∀ x ∈ atoms, okX x := fun x hx s e => by
  subst e
  revert hx
  exact fun hx => (show ∀ x ∈ atoms, (match x with | .str _ => SeqAt.shaped x | _ => true) = true by decide +kernel) _ hx
theorem ws_ok : okW (txts wordsS) := by unfold okW; decide +kernel
theorem at_eq : ∀ x ∈ atoms, (match cmpS .eq (.d x) (.d ptD) with | some b => b == PyData.eqv x ptD | none => false) = true := by decide +kernel
theorem at_plain : ∀ x ∈ atoms, isW x (txts wordsS) = true → (x.plain && decide (x.depth ≤ 60)) = true := by decide +kernel
end K52
namespace K52
open PySem NC
theorem cmp_pt {x : PyData} (h : x ∈ atoms) : cmpS .eq (.d x) (.d ptD) = some (PyData.eqv x ptD) := by
  have q := at_eq x h
  split at q
  · rename_i b e; rw [e, beq_iff_eq.mp q]
  · cases q
theorem plain_take {ds : List PyData} : ∀ {i : Nat}, (∀ x ∈ ds.take i, x.plain = true) → PyData.plainAll (ds.take i) = true := by
  intro i h
  generalize ds.take i = l at h
  induction l with
  | nil => rfl
  | cons x l ih =>
    show (x.plain && PyData.plainAll l) = true
    rw [h x (List.mem_cons_self ..), ih fun y hy => h y (List.mem_cons_of_mem _ hy)]; rfl
end K52

set_option Elab.async false
set_option linter.all false
set_option maxRecDepth 100000
set_option maxHeartbeats 1000000
namespace NC
open PySem
/-! ### texts of things -/
theorem strOk_append (x y : Str) (h1 : PyData.strOk x = true) (h2 : PyData.strOk y = true) : PyData.strOk (x ++ y) = true := by
  unfold PyData.strOk at *
  show (x.cps ++ y.cps).all _ = true
  rw [Array.all_append, h1, h2]; rfl
theorem strOk_join : ∀ ts : List Str, (∀ t ∈ ts, PyData.strOk t = true) → PyData.strOk (Str.join ", " ts) = true
  | [], _ => by decide +kernel
  | [x], h => h x (List.mem_cons_self ..)
  | x :: y :: r, h => by
    show PyData.strOk (x ++ ", " ++ Str.join ", " (y :: r)) = true
    exact strOk_append _ _ (strOk_append _ _ (h x (List.mem_cons_self ..)) (by decide +kernel)) (strOk_join (y :: r) fun t ht => h t (List.mem_cons_of_mem _ ht))
structure Rp (d L : Nat) (x : PyData) : Prop where
  sh : x.showable = true
  de : x.depth ≤ d
  le : x.shown.length ≤ L
  ok : PyData.strOk x.shown = true
theorem Rp.wide {d L d' L' : Nat} {x : PyData} (h : Rp d L x) (h1 : d ≤ d') (h2 : L ≤ L') : Rp d' L' x := ⟨h.sh, by have := h.de; omega, by have := h.le; omega, h.ok⟩
theorem rp_all {d L : Nat} : ∀ {xs : List PyData}, (∀ x ∈ xs, Rp d L x) → PyData.showableAll xs = true ∧ PyData.depthAll xs ≤ d ∧ ((PyData.shownAll xs).map (·.length)).sum ≤ L * xs.length ∧ (∀ t ∈ PyData.shownAll xs, PyData.strOk t = true) ∧ (PyData.shownAll xs).length = xs.length
  | [], _ => by simp [PyData.showableAll, PyData.depthAll, PyData.shownAll]
  | x :: xs, h => by
    obtain ⟨a, b, c, e, f⟩ := rp_all fun y hy => h y (List.mem_cons_of_mem _ hy)
    have hx := h x (List.mem_cons_self ..)
    refine ⟨by rw [PyData.showableAll, hx.sh, a]; rfl, by rw [PyData.depthAll]; have := hx.de; omega, ?_, ?_, by rw [PyData.shownAll, List.length_cons, f, List.length_cons]⟩
    · rw [PyData.shownAll, List.map_cons, List.sum_cons, List.length_cons, Nat.mul_add, Nat.mul_one]
      have := hx.le
      omega
    · intro t ht
      rw [PyData.shownAll] at ht
      cases ht with
      | head => exact hx.ok
      | tail _ ht => exact e t ht
theorem rp_tuple {d L : Nat} {xs : List PyData} (h : ∀ x ∈ xs, Rp d L x) (hl : xs.length ≤ 20) : Rp (d + 1) (L * 20 + 43) (.tuple xs) := by
  obtain ⟨a, b, c, e, f⟩ := rp_all h
  have h2 : L * xs.length ≤ L * 20 := Nat.mul_le_mul_left _ hl
  refine ⟨by rw [PyData.showable]; exact a, by rw [PyData.depth]; omega, ?_, ?_⟩
  · rw [PyData.shown]
    have := tupleText_len_le (PyData.shownAll xs)
    omega
  · rw [PyData.shown]
    unfold tupleText
    refine strOk_append _ _ (strOk_append _ _ (by decide +kernel) (strOk_join _ e)) ?_
    split <;> decide +kernel
theorem rp_list {d L : Nat} {xs : List PyData} (h : ∀ x ∈ xs, Rp d L x) (hl : xs.length ≤ 20) : Rp (d + 1) (L * 20 + 43) (.list xs) := by
  obtain ⟨a, b, c, e, f⟩ := rp_all h
  have h2 : L * xs.length ≤ L * 20 := Nat.mul_le_mul_left _ hl
  refine ⟨by rw [PyData.showable]; exact a, by rw [PyData.depth]; omega, ?_, ?_⟩
  · rw [PyData.shown]
    have := listText_len_le (PyData.shownAll xs)
    omega
  · rw [PyData.shown_list]
    exact strOk_append _ _ (strOk_append _ _ (by decide +kernel) (strOk_join _ e)) (by decide +kernel)
theorem Rp.rep {d L : Nat} {x : PyData} (h : Rp d L x) (h1 : d ≤ 60) (h2 : L ≤ 16777216) : bltS .repr [.d x] = some (.str x.shown) := by
  have a := h.de
  have b := h.le
  have c : (x.showable && decide (x.depth ≤ 60) && okLen x.shown.length) = true := by
    rw [h.sh, decide_eq_true (by omega : x.depth ≤ 60), okLen, decide_eq_true (by omega)]; rfl
  simp only [bltS, c, if_true]
theorem str_shaped {s : Str} (h : PyData.strOk s = true) : SeqAt.shaped (.str s) = true := by
  unfold SeqAt.shaped
  rw [PyData.canLay0, h, PyData.depth]; rfl
theorem eq_str {s t : Str} (h1 : PyData.strOk s = true) (h2 : PyData.strOk t = true) : cmpS .eq (.d (.str s)) (.d (.str t)) = some (decide (s = t)) := by
  simp only [cmpS, eqS, str_shaped h1, str_shaped h2, Bool.and_self, if_true, PyData.eqv]
  try rfl
theorem compE_filter {f : PyData → Option (Option PyData)} (p : PyData → Bool) : ∀ (xs acc : List PyData), (∀ x ∈ xs, f x = some (if p x = true then some x else none)) → acc.length + xs.length ≤ 16777216 → compE f xs acc = some (acc ++ xs.filter p)
  | [], acc, _, _ => by simp [compE]
  | x :: xs, acc, h, hl => by
    simp only [List.length_cons] at hl
    rw [compE, h x (List.mem_cons_self ..)]
    by_cases hp : p x = true
    · simp only [hp, if_true]
      rw [if_pos (by omega), compE_filter p xs _ (fun y hy => h y (List.mem_cons_of_mem _ hy)) (by simp only [List.length_append, List.length_cons, List.length_nil]; omega)]
      simp [List.filter_cons, hp]
    · simp only [hp, if_false]
      rw [compE_filter p xs _ (fun y hy => h y (List.mem_cons_of_mem _ hy)) (by omega)]
      simp [List.filter_cons, hp]
theorem compE_map {f : PyData → Option (Option PyData)} (q : PyData → PyData) : ∀ (xs acc : List PyData), (∀ x ∈ xs, f x = some (some (q x))) → acc.length + xs.length ≤ 16777216 → compE f xs acc = some (acc ++ xs.map q)
  | [], acc, _, _ => by simp [compE]
  | x :: xs, acc, h, hl => by
    simp only [List.length_cons] at hl
    rw [compE, h x (List.mem_cons_self ..)]
    simp only
    rw [if_pos (by omega), compE_map q xs _ (fun y hy => h y (List.mem_cons_of_mem _ hy)) (by simp only [List.length_append, List.length_cons, List.length_nil]; omega)]
    simp
section
variable {Ψ : PC} {sub : Nat → Nat → Bool} {s : S} {r : Ss} {δ δ' : Env} {v : VD} {c : Nat} {fs : List (Str × PyData)}
theorem sq_nx (h : eS Ψ sub s δ = some (.nx δ')) : eSs Ψ sub (.cons s r) δ = eSs Ψ sub r δ' := by rw [eSs, h]
theorem sq_rt (h : eS Ψ sub s δ = some (.rt v)) : eSs Ψ sub (.cons s r) δ = some (.rt v) := by rw [eSs, h]
theorem sq_ex (h : eS Ψ sub s δ = some (.ex c fs δ')) : eSs Ψ sub (.cons s r) δ = some (.ex c fs δ') := by rw [eSs, h]
end
theorem eC_rt {fns : List Fn} {sub : Nat → Nat → Bool} {k f : Nat} {fn : Fn} {vs : List VD} {v : VD} (h : fns[f]? = some fn) (hn : vs.length = fn.np) (e : eSs (eC fns sub k) sub fn.body (vs.map .sh ++ List.replicate (fn.ns - fn.np) .un) = some (.rt v)) : eC fns sub (k + 1) f vs = some (.ok v) := by
  simp only [eC, h, hn, if_true, e]
theorem eC_ex {fns : List Fn} {sub : Nat → Nat → Bool} {k f : Nat} {fn : Fn} {vs : List VD} {c : Nat} {fs : List (Str × PyData)} {δ : Env} (h : fns[f]? = some fn) (hn : vs.length = fn.np) (e : eSs (eC fns sub k) sub fn.body (vs.map .sh ++ List.replicate (fn.ns - fn.np) .un) = some (.ex c fs δ)) : eC fns sub (k + 1) f vs = some (.ex c fs) := by
  simp only [eC, h, hn, if_true, e]
theorem sub_take {xs : List PyData} {i : Nat} (h : i ≤ xs.length) : cutD xs none (some (i : Int)) = xs.take i := by
  rw [cutD, HT.sIx_nat, HT.sIx_none, List.drop_zero, Nat.min_eq_left h, Nat.sub_zero]
end NC

set_option Elab.async false
set_option linter.all false
set_option maxRecDepth 100000
set_option maxHeartbeats 1000000
namespace K52
open PySem NC
def wsD : List PyData := txts wordsS
abbrev Ψ (k : Nat) : PC := eC D.fns D.sub k
theorem at_rpB : ∀ x ∈ atoms, (x.showable && decide (x.depth ≤ 2) && decide (x.shown.length ≤ 30) && PyData.strOk x.shown) = true := by decide +kernel
theorem at_rp {x : PyData} (h : x ∈ atoms) : Rp 2 30 x := by
  have := at_rpB x h
  simp only [Bool.and_eq_true, decide_eq_true_eq] at this
  exact ⟨this.1.1.1, this.1.1.2, this.1.2, this.2⟩
theorem at_rep {x : PyData} (h : x ∈ atoms) : bltS .repr [.d x] = some (.str x.shown) := (at_rp h).rep (by omega) (by omega)
def W (x : PyData) : Prop := x ∈ atoms ∧ isW x wsD = true
theorem w_shp : ∀ x ∈ atoms, isW x wsD = true → (x.canLay0 && decide (x.depth ≤ 0)) = true := by decide +kernel
theorem w_shaped : ∀ {ds : List PyData}, (∀ z ∈ ds, W z) → PyData.canLayAll0 ds = true ∧ PyData.depthAll ds ≤ 0
  | [], _ => by simp [PyData.canLayAll0, PyData.depthAll]
  | x :: r, h => by
    obtain ⟨a, b⟩ := w_shaped fun z hz => h z (List.mem_cons_of_mem _ hz)
    have hx := h x (List.mem_cons_self ..)
    have := w_shp x hx.1 hx.2
    simp only [Bool.and_eq_true, decide_eq_true_eq] at this
    rw [PyData.canLayAll0, PyData.depthAll, this.1, a]
    exact ⟨rfl, by omega⟩
theorem w_tup {ds : List PyData} (h : ∀ z ∈ ds, W z) : SeqAt.shaped (.tuple ds) = true := by
  obtain ⟨a, b⟩ := w_shaped h
  unfold SeqAt.shaped
  rw [PyData.canLay0, a, PyData.depth, Bool.true_and]
  exact decide_eq_true (by omega)
theorem pt_shaped : SeqAt.shaped ptD = true := by decide +kernel
/-! ### acts_fault -/
def s1a : S := .ifs (.or2 (.not1 (.val (.isi (.var 0) "tuple"))) (.one (.cmp .gt (.blt .len (es [(.var 0)])) (.glo "MOST_ACTS" (.int 8))))) (ss [.ret (.tup (es [(.cst (.int 4))]))]) (ss [])
def s1b : S := .asg (.name 3) (.ite (.cmp .eq (.var 2) (.glo "POINT" ptD)) (.cst (.int 1)) (.cst (.int 2)))
def s1d : S := .ifs (.or2 (.not1 (.val (.call 0 (es [(.var 2), (.glo "WORDS" (.tuple wsD))])))) (.one (.cmp .ge (.cnt (.var 0) (.var 1) (.var 2)) (.var 3)))) (ss [.ret (.tup (es [(.cst (.int 4)), (.var 1)]))]) (ss [])
def s1c : S := .ret (.ite (.cmp .isin (.glo "POINT" ptD) (.var 0)) (.cst .none) (.tup (es [(.cst (.int 4))])))
theorem f1_body : f1.body = .cons s1a (.cons (.forS (.pair 1 2) (.enum (.var 0)) (.cons s1b (.cons s1d .nil))) (.cons s1c .nil)) := rfl
theorem s1a_t {Φ : PC} {ds : List PyData} {s1 s2 s3 : Sl} : eS Φ D.sub s1a [.sh (.d (.tuple ds)), s1, s2, s3] = if 8 < ds.length then some (.rt (.d (.tuple [.int 4]))) else some (.nx [.sh (.d (.tuple ds)), s1, s2, s3]) := by
  by_cases h : (8 : Int) < ds.length
  · have h2 : 8 < ds.length := by omega
    simp [s1a, ss, es, eS, eSs, eT, eE, eEs, bR, xF, lD, bD, isiS, bltS, cmpS, allD, okLen, h, h2]
  · have h2 : ¬ 8 < ds.length := by omega
    simp [s1a, ss, es, eS, eSs, eT, eE, eEs, bR, xF, lD, bD, isiS, bltS, cmpS, allD, okLen, h, h2]
def mostD (y : PyData) : PyData := .int (if PyData.eqv y ptD = true then 1 else 2)
theorem s1b_t {Φ : PC} {T y : PyData} {i : Int} {s3 : Sl} (hy : y ∈ atoms) : eS Φ D.sub s1b [.sh (.d T), .sh (.d (.int i)), .sh (.d y), s3] = some (.nx [.sh (.d T), .sh (.d (.int i)), .sh (.d y), .sh (.d (mostD y))]) := by
  have h := cmp_pt hy
  by_cases c : PyData.eqv y ptD = true
  · simp [s1b, eS, eT, eE, bR, xF, h, c, mostD, asgT]
  · simp [s1b, eS, eT, eE, bR, xF, h, c, mostD, asgT]
theorem s1d_t {k : Nat} {ds : List PyData} {y : PyData} {i : Nat} (hi : i < ds.length) (hw : ∀ z ∈ ds.take i, W z) (hy : y ∈ atoms) : eS (Ψ (k + 1)) D.sub s1d [.sh (.d (.tuple ds)), .sh (.d (.int i)), .sh (.d y), .sh (.d (mostD y))] = if badA ds i y = true then some (.rt (.d (.tuple [.int 4, .int i]))) else some (.nx [.sh (.d (.tuple ds)), .sh (.d (.int i)), .sh (.d y), .sh (.d (mostD y))]) := by
  have h0 : Ψ (k + 1) 0 [.d y, .d (.tuple wsD)] = _ := e0 ws_ok (at_ok y hy)
  by_cases c : isW y wsD = true
  · have hp := at_plain y hy c
    simp only [Bool.and_eq_true, decide_eq_true_eq] at hp
    have hpl : PyData.plainAll (ds.take i) = true := plain_take fun x hx => by
      have := at_plain x (hw x hx).1 (hw x hx).2
      simp only [Bool.and_eq_true] at this
      exact this.1
    have e : badA ds i y = decide ((if PyData.eqv y ptD = true then (1 : Int) else 2) ≤ (((ds.take i).countP fun z => PyData.eqv z y : Nat) : Int)) := by
      have c' : isW y (txts wordsS) = true := c
      simp [badA, c']
    rw [e]
    have q : eE (Ψ (k + 1)) D.sub (.cnt (.var 0) (.var 1) (.var 2)) [.sh (.d (.tuple ds)), .sh (.d (.int i)), .sh (.d y), .sh (.d (mostD y))] = some (.ok (.d (.int (((ds.take i).countP fun z => PyData.eqv z y : Nat) : Int)))) := by
      simp [eE, bR, lD, hi, hpl, hp.1, hp.2]
    unfold mostD
    generalize (if PyData.eqv y ptD = true then (1 : Int) else 2) = M
    by_cases m : M ≤ (((ds.take i).countP fun z => PyData.eqv z y : Nat) : Int)
    · simp [s1d, ss, es, eS, eSs, eT, eE, eEs, bR, xF, lD, bD, h0, c, hi, hpl, hp.1, hp.2, cmpS, m, allD, okLen]
    · simp [s1d, ss, es, eS, eSs, eT, eE, eEs, bR, xF, lD, bD, h0, c, hi, hpl, hp.1, hp.2, cmpS, m, allD, okLen]
  · have e : badA ds i y = true := by
      have c' : isW y (txts wordsS) = false := by
        show isW y wsD = false
        simpa using c
      simp [badA, c']
    have c2 : isW y wsD = false := by simpa using c
    rw [e]
    simp only [s1d, ss, es, eS, eT, eE, eEs, bR, xF, bD, h0, c2, List.getElem?_cons_zero, List.getElem?_cons_succ, Option.map, Bool.not_false, if_true, eSs, allD, okLen, List.length]
    rfl
def b1 : Ss := .cons s1b (.cons s1d .nil)
def B1 (Φ : PC) : PyData → NC.Env → Option Fl := fun x δ1 => match asgT (.pair 1 2) (.d x) δ1 with
  | some δ2 => eSs Φ D.sub b1 δ2
  | none => none
theorem W_of {ds : List PyData} {i : Nat} {y : PyData} (hy : y ∈ atoms) (h : badA ds i y ≠ true) : W y := ⟨hy, by
  have c : isW y (txts wordsS) = true := by
    cases e : isW y (txts wordsS) with
    | true => rfl
    | false => exact absurd (by simp [badA, e]) h
  exact c⟩
theorem loop1 {k : Nat} {ds : List PyData} : ∀ (r pre : List PyData), ds = pre ++ r → (∀ z ∈ pre, W z) → (∀ z ∈ r, z ∈ atoms) → ∀ s1 s2 s3 : Sl,
    (∃ i, loopA ds r pre.length = some i ∧ forE (B1 (Ψ (k + 1))) (enumD pre.length r) [.sh (.d (.tuple ds)), s1, s2, s3] = some (.rt (.d (.tuple [.int 4, .int (i : Nat)])))) ∨
    (loopA ds r pre.length = none ∧ (∀ z ∈ r, W z) ∧ ∃ t1 t2 t3 : Sl, forE (B1 (Ψ (k + 1))) (enumD pre.length r) [.sh (.d (.tuple ds)), s1, s2, s3] = some (.nx [.sh (.d (.tuple ds)), t1, t2, t3]))
  | [], pre, _, _, _, s1, s2, s3 => .inr ⟨rfl, (fun z h => nomatch h), s1, s2, s3, rfl⟩
  | x :: r, pre, hd, hp, hr, s1, s2, s3 => by
    have hx := hr x (List.mem_cons_self ..)
    have hi : pre.length < ds.length := by rw [hd]; simp
    have ht : ds.take pre.length = pre := by rw [hd, List.take_left]
    have step : B1 (Ψ (k + 1)) (.tuple [.int (pre.length : Nat), x]) [.sh (.d (.tuple ds)), s1, s2, s3] = if badA ds pre.length x = true then some (.rt (.d (.tuple [.int 4, .int (pre.length : Nat)]))) else some (.nx [.sh (.d (.tuple ds)), .sh (.d (.int (pre.length : Nat))), .sh (.d x), .sh (.d (mostD x))]) := by
      show eSs _ _ b1 [.sh (.d (.tuple ds)), .sh (.d (.int (pre.length : Nat))), .sh (.d x), s3] = _
      rw [b1, sq_nx (s1b_t hx), eSs, s1d_t hi (by rw [ht]; exact hp) hx]
      by_cases hb : badA ds pre.length x = true
      · simp only [hb, if_true]
      · simp only [hb, if_false]; rfl
    rw [show enumD pre.length (x :: r) = .tuple [.int (pre.length : Nat), x] :: enumD (pre.length + 1) r from rfl, forE, step, loopA]
    by_cases hb : badA ds pre.length x = true
    · rw [if_pos hb, if_pos hb]
      exact .inl ⟨_, rfl, rfl⟩
    · rw [if_neg hb, if_neg hb]
      have hx2 := W_of hx hb
      have hl : (pre ++ [x]).length = pre.length + 1 := by simp
      have ih := loop1 (k := k) (ds := ds) r (pre ++ [x]) (by rw [hd]; simp) (fun z hz => by
        rcases List.mem_append.mp hz with h | h
        · exact hp z h
        · rw [List.mem_singleton.mp h]; exact hx2) (fun z hz => hr z (List.mem_cons_of_mem _ hz)) (.sh (.d (.int (pre.length : Nat)))) (.sh (.d x)) (.sh (.d (mostD x)))
      rw [hl] at ih
      rcases ih with ⟨i, a, b⟩ | ⟨a, b, t⟩
      · exact .inl ⟨i, a, b⟩
      · exact .inr ⟨a, (fun z hz => by
          cases hz with
          | head => exact hx2
          | tail _ hz => exact b z hz), t⟩
theorem e1_tup {k : Nat} {ds : List PyData} (h : ∀ z ∈ ds, z ∈ atoms) : Ψ (k + 2) 1 [.d (.tuple ds)] = some (.ok (.d (actsF (.tuple ds)))) := by
  refine eC_rt (fn := f1) rfl rfl ?_
  rw [f1_body]
  show eSs _ _ _ [.sh (.d (.tuple ds)), .un, .un, .un] = _
  by_cases hl : 8 < ds.length
  · rw [sq_rt (by rw [s1a_t, if_pos hl])]
    simp [actsF, hl]
  · rw [sq_nx (by rw [s1a_t, if_neg hl])]
    have ef : eS (eC D.fns D.sub (k + 1)) D.sub (.forS (.pair 1 2) (.enum (.var 0)) (.cons s1b (.cons s1d .nil))) [.sh (.d (.tuple ds)), .un, .un, .un] = forE (B1 (Ψ (k + 1))) (enumD 0 ds) [.sh (.d (.tuple ds)), .un, .un, .un] := by
      rw [eS]; rfl
    rcases loop1 (k := k) ds [] rfl (fun z h => nomatch h) h .un .un .un with ⟨i, a, b⟩ | ⟨a, b, t1, t2, t3, c⟩
    · rw [sq_rt (ef.trans b)]
      have a : loopA ds ds 0 = some i := a
      simp [actsF, hl, a]
    · rw [sq_nx (ef.trans c), eSs]
      have a : loopA ds ds 0 = none := a
      have q : cmpS .isin (.d ptD) (.d (.tuple ds)) = some (ds.any fun z => PyData.eqv z ptD) := by
        simp only [cmpS, inS, pt_shaped, w_tup b, Bool.and_self, if_true]
      by_cases hq : (ds.any fun z => PyData.eqv z ptD) = true
      · rw [hq] at q
        simp only [actsF, hl, a, hq, if_false, if_true]
        simp [s1c, eS, eT, eE, eEs, bR, xF, q]
      · rw [Bool.not_eq_true] at hq
        rw [hq] at q
        simp only [actsF, hl, a, hq, if_false]
        simp [s1c, es, eS, eT, eE, eEs, bR, xF, q, allD, okLen]
end K52

set_option Elab.async false
set_option linter.all false
set_option maxRecDepth 100000
set_option maxHeartbeats 1000000
namespace K52
open PySem NC
/-! ### the law's own reading -/
def kD (k : Nat) : List PyData := txts (kindsS.getD k [])
def c5 : E := .comp (.var 6) (.name 6) (.seq (.sub (.var 2) (.var 1))) (.som (.cmp .eq (.blt .repr (es [(.var 6)])) (.blt .repr (es [(.sub (.var 0) (.var 1))]))))
def s5k : S := .ifs (.cmp .eq c5 (.lst (es []))) (ss [.ret (.lst (es [(.tup (es [(.var 1)]))]))]) (ss [])
def c7 : E := .comp (.var 7) (.name 7) (.seq (.sli (.sub (.var 0) (.cst (.int 4))) .non (.som (.var 1)))) (.som (.cmp .eq (.blt .repr (es [(.var 7)])) (.blt .repr (es [(.var 4)]))))
def c6 : E := .comp (.blt .repr (es [(.var 6)])) (.name 6) (.seq (.var 3)) .non
def s5a : S := .asg (.name 5) (.blt .len (es [c7]))
def s5b : S := .ifs (.or2 (.cmp .notin (.blt .repr (es [(.var 4)])) c6) (.one (.cmp .ge (.var 5) (.ite (.cmp .eq (.var 4) (.cst ptD)) (.cst (.int 1)) (.cst (.int 2)))))) (ss [.ret (.lst (es [(.tup (es [(.cst (.int 4)), (.var 1)]))]))]) (ss [])
def s50 : S := .asg (.pair 2 3) (.call 4 (es []))
def s51 : S := .ifs (.or2 (.not1 (.val (.isi (.var 0) "tuple"))) (.one (.cmp .ne (.blt .len (es [(.var 0)])) (.cst (.int 5))))) (ss [.ret (.lst (es [(.tup (es []))]))]) (ss [])
def s53 : S := .ifs (.or2 (.not1 (.val (.isi (.sub (.var 0) (.cst (.int 4))) "tuple"))) (.one (.cmp .gt (.blt .len (es [(.sub (.var 0) (.cst (.int 4)))])) (.cst (.int 8))))) (ss [.ret (.lst (es [(.tup (es [(.cst (.int 4))]))]))]) (ss [])
def s55 : S := .ret (.ite (.cmp .isin (.cst ptD) (.sub (.var 0) (.cst (.int 4)))) (.lst (es [])) (.lst (es [(.tup (es [(.cst (.int 4))]))])))
theorem f5_body : f5.body = .cons s50 (.cons s51 (.cons (.forS (.name 1) (.rng (.cst (.int 4))) (.cons s5k .nil)) (.cons s53 (.cons (.forS (.pair 1 4) (.enum (.sub (.var 0) (.cst (.int 4)))) (.cons s5a (.cons s5b .nil))) (.cons s55 .nil))))) := rfl
theorem e4 {k : Nat} : Ψ (k + 1) 4 [] = some (.ok (.d (.tuple [foundD, actsD]))) := by
  refine eC_rt (fn := f4) rfl rfl ?_
  rfl
def flt (xs : List PyData) (y : PyData) : List PyData := xs.filter fun z => decide (z.shown = y.shown)
def rok1 (xs : List PyData) : Bool := xs.all fun x => x.showable && decide (x.depth ≤ 2) && decide (x.shown.length ≤ 30) && PyData.strOk x.shown
theorem rok1_rp {xs : List PyData} (h : rok1 xs = true) : ∀ x ∈ xs, Rp 2 30 x := fun x hx => by
  have := List.all_eq_true.mp h x hx
  simp only [Bool.and_eq_true, decide_eq_true_eq] at this
  exact ⟨this.1.1.1, this.1.1.2, this.1.2, this.2⟩
theorem kd_rok : ∀ k ∈ [0, 1, 2, 3], rok1 (kD k) = true := by decide +kernel
theorem ws_rok : rok1 wsD = true := by decide +kernel
theorem kd_flt : ∀ k ∈ [0, 1, 2, 3], ∀ x ∈ atoms, ((flt (kD k) x).isEmpty == !(isW x (kD k)) && SeqAt.shaped (.list (flt (kD k) x))) = true := by decide +kernel
theorem kd_ok : ∀ k ∈ [0, 1, 2, 3], SeqAt.shaped (.tuple (kD k)) = true := by decide +kernel
theorem flt_f {ws : List PyData} {x : PyData} (hw : ∀ w ∈ ws, Rp 2 30 w) (hx : Rp 2 30 x) : ∀ w ∈ ws, cmpS .eq (.d (.str w.shown)) (.d (.str x.shown)) = some (decide (w.shown = x.shown)) := fun w h => eq_str (hw w h).ok hx.ok
theorem eq_nil {l : List PyData} (h : SeqAt.shaped (.list l) = true) : cmpS .eq (.d (.list l)) (.d (.list [])) = some l.isEmpty := by
  have h2 : SeqAt.shaped (.list []) = true := by decide +kernel
  simp only [cmpS, eqS, h, h2, Bool.and_self, if_true]
  cases l <;> simp [PyData.eqv, PyData.eqvAll]
theorem c5_t {Φ : PC} {T x : PyData} {k : Nat} {s3 s4 s5 s6 s7 : Sl} (hk : k ∈ [0, 1, 2, 3]) (ha : atS (.d T) (.d (.int k)) = some x) (hx : x ∈ atoms) : eE Φ D.sub c5 [.sh (.d T), .sh (.d (.int k)), .sh (.d foundD), s3, s4, s5, s6, s7] = some (.ok (.d (.list (flt (kD k) x)))) := by
  have hf : atS (.d foundD) (.d (.int k)) = some (.list (kD k)) := by
    simp only [List.mem_cons, List.not_mem_nil, or_false] at hk
    rcases hk with rfl | rfl | rfl | rfl <;> rfl
  have rw1 := rok1_rp (kd_rok k hk)
  have hl : (kD k).length ≤ 3 := by
    simp only [List.mem_cons, List.not_mem_nil, or_false] at hk
    rcases hk with rfl | rfl | rfl | rfl <;> decide
  have hr := at_rep hx
  simp only [c5, eE, eIt, bR, List.getElem?_cons_zero, List.getElem?_cons_succ, hf, Option.map, itS]
  rw [compE_filter (fun z => decide (z.shown = x.shown)) (kD k) [] (fun w hw => ?_) (by simp only [List.length_nil]; omega)]
  · rfl
  · have h1 := (rw1 w hw).rep (by omega) (by omega)
    have h2 := eq_str (rw1 w hw).ok (at_rp hx).ok
    by_cases q : w.shown = x.shown
    · rw [q] at h1 h2
      simp [asgT, wipeD, Tg.slots, eTO, eT, eE, eEs, es, bR, h1, ha, hr, h2, pureR, lD, q]
    · simp [asgT, wipeD, Tg.slots, eTO, eT, eE, eEs, es, bR, h1, ha, hr, h2, pureR, lD, q]
theorem s5k_t {Φ : PC} {T x : PyData} {k : Nat} {s3 s4 s5 s6 s7 : Sl} (hk : k ∈ [0, 1, 2, 3]) (ha : atS (.d T) (.d (.int k)) = some x) (hx : x ∈ atoms) : eS Φ D.sub s5k [.sh (.d T), .sh (.d (.int k)), .sh (.d foundD), s3, s4, s5, s6, s7] = if isW x (kD k) = true then some (.nx [.sh (.d T), .sh (.d (.int k)), .sh (.d foundD), s3, s4, s5, s6, s7]) else some (.rt (.d (.list [.tuple [.int k]]))) := by
  have h1 := kd_flt k hk x hx
  simp only [Bool.and_eq_true, beq_iff_eq] at h1
  have h2 := eq_nil h1.2
  rw [h1.1] at h2
  have h3 := c5_t (Φ := Φ) (s3 := s3) (s4 := s4) (s5 := s5) (s6 := s6) (s7 := s7) hk ha hx
  by_cases q : isW x (kD k) = true
  · rw [q] at h2
    simp only [s5k, eS, eT, h3, bR, es, eE, eEs, allD, okLen, List.length]
    simp [h2, xF, q, ss, eSs]
  · rw [Bool.not_eq_true] at q
    rw [q] at h2
    simp only [s5k, eS, eT, h3, bR, es, eE, eEs, allD, okLen, List.length]
    simp [h2, xF, q, ss, es, eSs, eS, eE, eEs, bR, allD, okLen]
theorem c7_t {Φ : PC} {T y : PyData} {ds : List PyData} {i : Nat} {s2 s3 s5 s6 s7 : Sl} (ha : atS (.d T) (.d (.int 4)) = some (.tuple ds)) (hi : i ≤ ds.length) (hl : ds.length ≤ 8) (hd : ∀ z ∈ ds, z ∈ atoms) (hy : y ∈ atoms) : eE Φ D.sub c7 [.sh (.d T), .sh (.d (.int i)), s2, s3, .sh (.d y), s5, s6, s7] = some (.ok (.d (.list (flt (ds.take i) y)))) := by
  have hr := at_rep hy
  simp only [c7, eE, eIt, eO, bR, List.getElem?_cons_zero, List.getElem?_cons_succ, ha, Option.map, itS, cutS, iD, sub_take hi]
  rw [compE_filter (fun z => decide (z.shown = y.shown)) (ds.take i) [] (fun w hw => ?_) (by simp only [List.length_nil, List.length_take]; omega)]
  · rfl
  · have hw := hd w (List.mem_of_mem_take hw)
    have h1 := at_rep hw
    have h2 := eq_str (at_rp hw).ok (at_rp hy).ok
    by_cases q : w.shown = y.shown
    · rw [q] at h1 h2
      simp [asgT, wipeD, Tg.slots, eTO, eT, eE, eEs, es, bR, h1, hr, h2, pureR, lD, q]
    · simp [asgT, wipeD, Tg.slots, eTO, eT, eE, eEs, es, bR, h1, hr, h2, pureR, lD, q]
theorem s5a_t {Φ : PC} {T y : PyData} {ds : List PyData} {i : Nat} {s2 s3 s5 s6 s7 : Sl} (ha : atS (.d T) (.d (.int 4)) = some (.tuple ds)) (hi : i ≤ ds.length) (hl : ds.length ≤ 8) (hd : ∀ z ∈ ds, z ∈ atoms) (hy : y ∈ atoms) : eS Φ D.sub s5a [.sh (.d T), .sh (.d (.int i)), s2, s3, .sh (.d y), s5, s6, s7] = some (.nx [.sh (.d T), .sh (.d (.int i)), s2, s3, .sh (.d y), .sh (.d (.int ((flt (ds.take i) y).length : Nat))), s6, s7]) := by
  have h := c7_t (Φ := Φ) (s2 := s2) (s3 := s3) (s5 := s5) (s6 := s6) (s7 := s7) ha hi hl hd hy
  simp only [s5a, eS, eE, eEs, es, bR, h, bltS, xF, Option.map, asgT]
  rfl
def reprs : List PyData := wsD.map fun w => .str w.shown
theorem c6_t {Φ : PC} {s0 s1 s2 s4 s5 s6 s7 : Sl} : eE Φ D.sub c6 [s0, s1, s2, .sh (.d actsD), s4, s5, s6, s7] = some (.ok (.d (.list reprs))) := by
  simp only [c6, eE, eIt, bR, List.getElem?_cons_zero, List.getElem?_cons_succ, Option.map, itS, actsD]
  rw [compE_map (fun w => .str w.shown) (txts wordsS) [] (fun w hw => ?_) (by decide)]
  · rfl
  · have h1 := (rok1_rp ws_rok w hw).rep (by omega) (by omega)
    simp [asgT, wipeD, Tg.slots, eTO, eT, eE, eEs, es, bR, h1, pureR, lD]
theorem reprs_sh : SeqAt.shaped (.tuple reprs) = true := by decide +kernel
theorem reprs_in : ∀ y ∈ atoms, (reprs.any fun z => PyData.eqv z (.str y.shown)) = isW y wsD := by decide +kernel
theorem inj_w : ∀ x ∈ atoms, isW x wsD = true → ∀ y ∈ atoms, isW y wsD = true → decide (x.shown = y.shown) = PyData.eqv x y := by decide +kernel
theorem elder {xs : List PyData} {y : PyData} (hx : ∀ z ∈ xs, W z) (hy : W y) : (flt xs y).length = xs.countP fun z => PyData.eqv z y := by
  rw [List.countP_eq_length_filter, flt]
  congr 1
  refine List.filter_congr fun z hz => ?_
  exact inj_w z (hx z hz).1 (hx z hz).2 y hy.1 hy.2
theorem s5b_t {Φ : PC} {T y : PyData} {ds : List PyData} {i : Nat} {s2 s6 s7 : Sl} (hw : ∀ z ∈ ds.take i, W z) (hy : y ∈ atoms) : eS Φ D.sub s5b [.sh (.d T), .sh (.d (.int i)), s2, .sh (.d actsD), .sh (.d y), .sh (.d (.int ((flt (ds.take i) y).length : Nat))), s6, s7] = if badA ds i y = true then some (.rt (.d (.list [.tuple [.int 4, .int i]]))) else some (.nx [.sh (.d T), .sh (.d (.int i)), s2, .sh (.d actsD), .sh (.d y), .sh (.d (.int ((flt (ds.take i) y).length : Nat))), s6, s7]) := by
  have hr := at_rep hy
  have hp := cmp_pt hy
  generalize eδ : [Sl.sh (.d T), .sh (.d (.int i)), s2, .sh (.d actsD), .sh (.d y), .sh (.d (.int ((flt (ds.take i) y).length : Nat))), s6, s7] = δ
  have hc6 : eE Φ D.sub c6 δ = some (.ok (.d (.list reprs))) := by rw [← eδ]; exact c6_t
  have hv4 : eE Φ D.sub (.blt .repr (es [(.var 4)])) δ = some (.ok (.d (.str y.shown))) := by rw [← eδ]; simp [eE, eEs, es, bR, hr]
  have hv5 : eE Φ D.sub (.var 5) δ = some (.ok (.d (.int ((flt (ds.take i) y).length : Nat)))) := by rw [← eδ]; simp [eE]
  have hM : eE Φ D.sub (.ite (.cmp .eq (.var 4) (.cst ptD)) (.cst (.int 1)) (.cst (.int 2))) δ = some (.ok (.d (mostD y))) := by
    rw [← eδ]
    by_cases c : PyData.eqv y ptD = true
    · simp [eT, eE, bR, hp, c, mostD]
    · simp [eT, eE, bR, hp, c, mostD]
  have hret : eSs Φ D.sub (ss [.ret (.lst (es [(.tup (es [(.cst (.int 4)), (.var 1)]))]))]) δ = some (.rt (.d (.list [.tuple [.int 4, .int i]]))) := by
    rw [← eδ]; simp [ss, es, eSs, eS, eE, eEs, bR, xF, allD, okLen]
  have hn : cmpS .notin (.d (.str y.shown)) (.d (.list reprs)) = some (!isW y wsD) := by
    simp only [cmpS, inS, str_shaped (at_rp hy).ok, reprs_sh, Bool.and_self, if_true, Option.map, reprs_in y hy]
  by_cases c : isW y wsD = true
  · have c' : isW y (txts wordsS) = true := c
    have e : badA ds i y = decide ((if PyData.eqv y ptD = true then (1 : Int) else 2) ≤ (((ds.take i).countP fun z => PyData.eqv z y : Nat) : Int)) := by simp [badA, c']
    rw [e]
    rw [elder hw ⟨hy, c⟩] at hv5
    unfold mostD at hM
    generalize (if PyData.eqv y ptD = true then (1 : Int) else 2) = M at hM
    generalize ((ds.take i).countP fun z => PyData.eqv z y) = n at hv5
    have hge : cmpS .ge (.d (.int (n : Int))) (.d (.int M)) = some (decide (M ≤ (n : Int))) := rfl
    by_cases m : M ≤ (n : Int)
    · simp only [s5b, eS, eT, bR, hv4, hc6, hn, c, Option.map, Bool.not_true, Bool.false_eq_true, if_false, hv5, hM, hge, m, decide_true, if_true, xF, hret]
    · simp only [s5b, eS, eT, bR, hv4, hc6, hn, c, Option.map, Bool.not_true, Bool.false_eq_true, if_false, hv5, hM, hge, m, decide_false, xF, ss, eSs]
  · have c2 : isW y wsD = false := by simpa using c
    have c' : isW y (txts wordsS) = false := c2
    have e : badA ds i y = true := by simp [badA, c']
    rw [e]
    simp only [s5b, eS, eT, bR, hv4, hc6, hn, c2, Option.map, Bool.not_false, if_true, xF, hret]
def B5 (Φ : PC) : PyData → NC.Env → Option Fl := fun x δ1 => match asgT (.pair 1 4) (.d x) δ1 with
  | some δ2 => eSs Φ D.sub (.cons s5a (.cons s5b .nil)) δ2
  | none => none
theorem loop5 {Φ : PC} {T : PyData} {ds : List PyData} {s2 s6 s7 : Sl} (ha : atS (.d T) (.d (.int 4)) = some (.tuple ds)) (hl : ds.length ≤ 8) (hat : ∀ z ∈ ds, z ∈ atoms) : ∀ (r pre : List PyData), ds = pre ++ r → (∀ z ∈ pre, W z) → ∀ s1 s4 s5 : Sl,
    (∃ i, loopA ds r pre.length = some i ∧ forE (B5 Φ) (enumD pre.length r) [.sh (.d T), s1, s2, .sh (.d actsD), s4, s5, s6, s7] = some (.rt (.d (.list [.tuple [.int 4, .int (i : Nat)]])))) ∨
    (loopA ds r pre.length = none ∧ (∀ z ∈ r, W z) ∧ ∃ t1 t4 t5 : Sl, forE (B5 Φ) (enumD pre.length r) [.sh (.d T), s1, s2, .sh (.d actsD), s4, s5, s6, s7] = some (.nx [.sh (.d T), t1, s2, .sh (.d actsD), t4, t5, s6, s7]))
  | [], pre, _, _, s1, s4, s5 => .inr ⟨rfl, (fun z h => nomatch h), s1, s4, s5, rfl⟩
  | x :: r, pre, hd, hp, s1, s4, s5 => by
    have hx := hat x (by rw [hd]; simp)
    have hi : pre.length ≤ ds.length := by rw [hd]; simp
    have ht : ds.take pre.length = pre := by rw [hd, List.take_left]
    have step : ∃ n : PyData, B5 Φ (.tuple [.int (pre.length : Nat), x]) [.sh (.d T), s1, s2, .sh (.d actsD), s4, s5, s6, s7] = if badA ds pre.length x = true then some (.rt (.d (.list [.tuple [.int 4, .int (pre.length : Nat)]]))) else some (.nx [.sh (.d T), .sh (.d (.int (pre.length : Nat))), s2, .sh (.d actsD), .sh (.d x), .sh (.d n), s6, s7]) := by
      refine ⟨.int ((flt (ds.take pre.length) x).length : Nat), ?_⟩
      show eSs _ _ _ [.sh (.d T), .sh (.d (.int (pre.length : Nat))), s2, .sh (.d actsD), .sh (.d x), s5, s6, s7] = _
      rw [sq_nx (s5a_t ha hi hl hat hx), eSs, s5b_t (by rw [ht]; exact hp) hx]
      by_cases hb : badA ds pre.length x = true
      · simp only [hb, if_true]
      · simp only [hb, if_false]; rfl
    obtain ⟨n, step⟩ := step
    rw [show enumD pre.length (x :: r) = .tuple [.int (pre.length : Nat), x] :: enumD (pre.length + 1) r from rfl, forE, step, loopA]
    by_cases hb : badA ds pre.length x = true
    · rw [if_pos hb, if_pos hb]
      exact .inl ⟨_, rfl, rfl⟩
    · rw [if_neg hb, if_neg hb]
      have hx2 := W_of hx hb
      have hl2 : (pre ++ [x]).length = pre.length + 1 := by simp
      have ih := loop5 (Φ := Φ) (s2 := s2) (s6 := s6) (s7 := s7) ha hl hat r (pre ++ [x]) (by rw [hd]; simp) (fun z hz => by
        rcases List.mem_append.mp hz with h | h
        · exact hp z h
        · rw [List.mem_singleton.mp h]; exact hx2) (.sh (.d (.int (pre.length : Nat)))) (.sh (.d x)) (.sh (.d n))
      rw [hl2] at ih
      rcases ih with ⟨i, a, b⟩ | ⟨a, b, t⟩
      · exact .inl ⟨i, a, b⟩
      · exact .inr ⟨a, (fun z hz => by
          cases hz with
          | head => exact hx2
          | tail _ hz => exact b z hz), t⟩
end K52

set_option Elab.async false
set_option linter.all false
set_option maxRecDepth 100000
set_option maxHeartbeats 1000000
namespace K52
open PySem NC
def Ac (x : PyData) : Prop := (∀ ds, x ≠ .tuple ds) ∨ ∃ ds, x = .tuple ds ∧ ∀ z ∈ ds, z ∈ atoms
def plF (a b c d x : PyData) : PyData := if isW a (kD 0) = true then (if isW b (kD 1) = true then (if isW c (kD 2) = true then (if isW d (kD 3) = true then actsF x else .tuple [.int 3]) else .tuple [.int 2]) else .tuple [.int 1]) else .tuple [.int 0]
def plL : PyData → List PyData
  | .none => []
  | p => [p]
def B5k (Φ : PC) : PyData → NC.Env → Option Fl := fun x δ1 => match asgT (.name 1) (.d x) δ1 with
  | some δ2 => eSs Φ D.sub (.cons s5k .nil) δ2
  | none => none
theorem B5k_t {Φ : PC} {T x : PyData} {k : Nat} {s1 s3 s4 s5 s6 s7 : Sl} (hk : k ∈ [0, 1, 2, 3]) (ha : atS (.d T) (.d (.int k)) = some x) (hx : x ∈ atoms) : B5k Φ (.int k) [.sh (.d T), s1, .sh (.d foundD), s3, s4, s5, s6, s7] = if isW x (kD k) = true then some (.nx [.sh (.d T), .sh (.d (.int k)), .sh (.d foundD), s3, s4, s5, s6, s7]) else some (.rt (.d (.list [.tuple [.int k]]))) := by
  show eSs _ _ _ [.sh (.d T), .sh (.d (.int k)), .sh (.d foundD), s3, s4, s5, s6, s7] = _
  rw [eSs, s5k_t hk ha hx]
  by_cases q : isW x (kD k) = true
  · simp only [q, if_true]; rfl
  · simp only [q, Bool.false_eq_true, if_false]
theorem s53_t {Φ : PC} {a b c d : PyData} {ds : List PyData} {s1 s2 s3 s4 s5 s6 s7 : Sl} : eS Φ D.sub s53 [.sh (.d (.tuple [a, b, c, d, .tuple ds])), s1, s2, s3, s4, s5, s6, s7] = if 8 < ds.length then some (.rt (.d (.list [.tuple [.int 4]]))) else some (.nx [.sh (.d (.tuple [a, b, c, d, .tuple ds])), s1, s2, s3, s4, s5, s6, s7]) := by
  have h4 : atS (.d (.tuple [a, b, c, d, .tuple ds])) (.d (.int 4)) = some (.tuple ds) := rfl
  by_cases h : (8 : Int) < ds.length
  · have h2 : 8 < ds.length := by omega
    simp [s53, ss, es, eS, eSs, eT, eE, eEs, bR, xF, lD, bD, isiS, bltS, cmpS, allD, okLen, h, h2, h4]
  · have h2 : ¬ 8 < ds.length := by omega
    simp [s53, ss, es, eS, eSs, eT, eE, eEs, bR, xF, lD, bD, isiS, bltS, cmpS, allD, okLen, h, h2, h4]
theorem s53_n {Φ : PC} {a b c d x : PyData} {s1 s2 s3 s4 s5 s6 s7 : Sl} (hx : ∀ ds, x ≠ .tuple ds) : eS Φ D.sub s53 [.sh (.d (.tuple [a, b, c, d, x])), s1, s2, s3, s4, s5, s6, s7] = some (.rt (.d (.list [.tuple [.int 4]]))) := by
  have h4 : atS (.d (.tuple [a, b, c, d, x])) (.d (.int 4)) = some x := rfl
  have h5 : isiS x "tuple" = some false := by
    cases x with
    | tuple ds => exact absurd rfl (hx ds)
    | _ => simp [isiS]
  simp [s53, ss, es, eS, eSs, eT, eE, eEs, bR, xF, lD, bD, h5, h4, allD, okLen]
theorem e5_t {k : Nat} {a b c d x : PyData} (ha : a ∈ atoms) (hb : b ∈ atoms) (hc : c ∈ atoms) (hd : d ∈ atoms) (hx : Ac x) : Ψ (k + 2) 5 [.d (.tuple [a, b, c, d, x])] = some (.ok (.d (.list (plL (plF a b c d x))))) := by
  refine eC_rt (fn := f5) rfl rfl ?_
  rw [f5_body]
  show eSs _ _ _ [.sh (.d (.tuple [a, b, c, d, x])), .un, .un, .un, .un, .un, .un, .un] = _
  have h4 := e4 (k := k)
  rw [sq_nx (δ' := [.sh (.d (.tuple [a, b, c, d, x])), .un, .sh (.d foundD), .sh (.d actsD), .un, .un, .un, .un]) (by simp [s50, eS, eE, eEs, es, bR, xF, h4, asgT])]
  rw [sq_nx (δ' := [.sh (.d (.tuple [a, b, c, d, x])), .un, .sh (.d foundD), .sh (.d actsD), .un, .un, .un, .un]) (by rfl)]
  have ef : ∀ Φ : PC, eS Φ D.sub (.forS (.name 1) (.rng (.cst (.int 4))) (.cons s5k .nil)) [.sh (.d (.tuple [a, b, c, d, x])), .un, .sh (.d foundD), .sh (.d actsD), .un, .un, .un, .un] = forE (B5k Φ) [.int (0 : Nat), .int (1 : Nat), .int (2 : Nat), .int (3 : Nat)] [.sh (.d (.tuple [a, b, c, d, x])), .un, .sh (.d foundD), .sh (.d actsD), .un, .un, .un, .un] := fun Φ => by rw [eS]; rfl
  unfold plF
  by_cases qa : ¬ (isW a (kD 0) = true)
  · rw [sq_rt (v := .d (.list [.tuple [.int (0 : Nat)]])) (by rw [ef, forE, B5k_t (x := a) (by simp) rfl ha, if_neg qa])]
    rw [if_neg qa]; rfl
  have qa := Decidable.not_not.mp qa
  by_cases qb : ¬ (isW b (kD 1) = true)
  · rw [sq_rt (v := .d (.list [.tuple [.int (1 : Nat)]])) (by rw [ef, forE, B5k_t (x := a) (by simp) rfl ha, if_pos qa]; simp only; rw [forE, B5k_t (x := b) (by simp) rfl hb, if_neg qb])]
    rw [if_pos qa, if_neg qb]; rfl
  have qb := Decidable.not_not.mp qb
  by_cases qc : ¬ (isW c (kD 2) = true)
  · rw [sq_rt (v := .d (.list [.tuple [.int (2 : Nat)]])) (by rw [ef, forE, B5k_t (x := a) (by simp) rfl ha, if_pos qa]; simp only; rw [forE, B5k_t (x := b) (by simp) rfl hb, if_pos qb]; simp only; rw [forE, B5k_t (x := c) (by simp) rfl hc, if_neg qc])]
    rw [if_pos qa, if_pos qb, if_neg qc]; rfl
  have qc := Decidable.not_not.mp qc
  by_cases qd : ¬ (isW d (kD 3) = true)
  · rw [sq_rt (v := .d (.list [.tuple [.int (3 : Nat)]])) (by rw [ef, forE, B5k_t (x := a) (by simp) rfl ha, if_pos qa]; simp only; rw [forE, B5k_t (x := b) (by simp) rfl hb, if_pos qb]; simp only; rw [forE, B5k_t (x := c) (by simp) rfl hc, if_pos qc]; simp only; rw [forE, B5k_t (x := d) (by simp) rfl hd, if_neg qd])]
    rw [if_pos qa, if_pos qb, if_pos qc, if_neg qd]; rfl
  have qd := Decidable.not_not.mp qd
  rw [if_pos qa, if_pos qb, if_pos qc, if_pos qd]
  rw [sq_nx (δ' := [.sh (.d (.tuple [a, b, c, d, x])), .sh (.d (.int (3 : Nat))), .sh (.d foundD), .sh (.d actsD), .un, .un, .un, .un]) (by rw [ef, forE, B5k_t (x := a) (by simp) rfl ha, if_pos qa]; simp only; rw [forE, B5k_t (x := b) (by simp) rfl hb, if_pos qb]; simp only; rw [forE, B5k_t (x := c) (by simp) rfl hc, if_pos qc]; simp only; rw [forE, B5k_t (x := d) (by simp) rfl hd, if_pos qd]; rfl)]
  rcases hx with hx | ⟨ds, rfl, hds⟩
  · rw [sq_rt (s53_n hx)]
    have : actsF x = .tuple [.int 4] := by
      cases x with
      | tuple ds => exact absurd rfl (hx ds)
      | _ => rfl
    rw [this]; rfl
  · by_cases hl : 8 < ds.length
    · rw [sq_rt (by rw [s53_t, if_pos hl])]
      simp [actsF, hl, plL]
    · rw [sq_nx (by rw [s53_t, if_neg hl])]
      have eg : ∀ (Φ : PC) (δ : NC.Env) (r : List Sl), δ = .sh (.d (.tuple [a, b, c, d, .tuple ds])) :: r → eS Φ D.sub (.forS (.pair 1 4) (.enum (.sub (.var 0) (.cst (.int 4)))) (.cons s5a (.cons s5b .nil))) δ = forE (B5 Φ) (enumD 0 ds) δ := fun Φ δ r e => by subst e; rw [eS]; rfl
      rcases loop5 (Φ := eC D.fns D.sub (k + 1)) (T := .tuple [a, b, c, d, .tuple ds]) (s2 := .sh (.d foundD)) (s6 := .un) (s7 := .un) rfl (by omega) hds ds [] rfl (fun z h => nomatch h) (.sh (.d (.int (3 : Nat)))) .un .un with ⟨i, p, q⟩ | ⟨p, q, t1, t2, t3, r⟩
      · rw [sq_rt ((eg _ _ _ rfl).trans q)]
        have p : loopA ds ds 0 = some i := p
        simp [actsF, hl, p, plL]
      · rw [sq_nx ((eg _ _ _ rfl).trans r), eSs]
        have p : loopA ds ds 0 = none := p
        have h4 : atS (.d (.tuple [a, b, c, d, .tuple ds])) (.d (.int 4)) = some (.tuple ds) := rfl
        have u : cmpS .isin (.d ptD) (.d (.tuple ds)) = some (ds.any fun z => PyData.eqv z ptD) := by
          simp only [cmpS, inS, pt_shaped, w_tup q, Bool.and_self, if_true]
        by_cases hq : (ds.any fun z => PyData.eqv z ptD) = true
        · rw [hq] at u
          simp only [actsF, hl, p, hq, if_false, if_true, plL]
          simp [s55, es, eS, eT, eE, eEs, bR, xF, u, h4, allD, okLen]
        · rw [Bool.not_eq_true] at hq
          rw [hq] at u
          simp only [actsF, hl, p, hq, if_false, plL]
          simp [s55, es, eS, eT, eE, eEs, bR, xF, u, h4, allD, okLen]
end K52

set_option Elab.async false
set_option linter.all false
set_option maxRecDepth 100000
set_option maxHeartbeats 1000000
namespace K52
open PySem NC
/-! ### need_manner -/
def KD : PyData := .tuple [.tuple (kD 0), .tuple (kD 1), .tuple (kD 2), .tuple (kD 3)]
def s2a : S := .ifs (.or2 (.not1 (.val (.isi (.var 0) "tuple"))) (.one (.cmp .ne (.blt .len (es [(.var 0)])) (.cst (.int 5))))) (ss [.rse 1 "place" (.tup (es []))]) (ss [])
def s2k : S := .ifs (.not1 (.val (.call 0 (es [(.sub (.var 0) (.var 2)), (.var 3)])))) (ss [.rse 1 "place" (.tup (es [(.var 2)]))]) (ss [])
def s2c : S := .asg (.name 1) (.call 1 (es [(.sub (.var 0) (.cst (.int 4)))]))
def s2d : S := .ifs (.cmp .isnot (.var 1) (.cst .none)) (ss [.rse 1 "place" (.var 1)]) (ss [])
theorem f2_body : f2.body = .cons s2a (.cons (.forS (.pair 2 3) (.enum (.glo "KINDS" KD)) (.cons s2k .nil)) (.cons s2c (.cons s2d (.cons (.ret (.var 0)) .nil)))) := rfl
def B2 (Φ : PC) : PyData → NC.Env → Option Fl := fun x δ1 => match asgT (.pair 2 3) (.d x) δ1 with
  | some δ2 => eSs Φ D.sub (.cons s2k .nil) δ2
  | none => none
def fl (p : PyData) : List (Str × PyData) := [("place", p)]
theorem B2_t {j k : Nat} {T x : PyData} {s1 s2 s3 : Sl} (hk : k ∈ [0, 1, 2, 3]) (ha : atS (.d T) (.d (.int k)) = some x) (hx : x ∈ atoms) : B2 (Ψ (j + 1)) (.tuple [.int k, .tuple (kD k)]) [.sh (.d T), s1, s2, s3] = if isW x (kD k) = true then some (.nx [.sh (.d T), s1, .sh (.d (.int k)), .sh (.d (.tuple (kD k)))]) else some (.ex 1 (fl (.tuple [.int k])) [.sh (.d T), s1, .sh (.d (.int k)), .sh (.d (.tuple (kD k)))]) := by
  have h0 : Ψ (j + 1) 0 [.d x, .d (.tuple (kD k))] = _ := e0 (kd_ok k hk) (at_ok x hx)
  show eSs _ _ _ [.sh (.d T), s1, .sh (.d (.int k)), .sh (.d (.tuple (kD k)))] = _
  by_cases q : isW x (kD k) = true
  · rw [q] at h0
    simp [s2k, ss, es, eSs, eS, eT, eE, eEs, bR, xF, bD, ha, h0, q]
  · rw [Bool.not_eq_true] at q
    rw [q] at h0
    simp [s2k, ss, es, eSs, eS, eT, eE, eEs, bR, xF, bD, lD, ha, h0, q, allD, okLen, fl]
def plR (T p : PyData) : Rz VD := match p with
  | .none => .ok (.d T)
  | p => .ex 1 (fl p)
theorem e1_ac {k : Nat} {x : PyData} (hx : Ac x) : Ψ (k + 2) 1 [.d x] = some (.ok (.d (actsF x))) := by
  rcases hx with hx | ⟨ds, rfl, h⟩
  · exact e1_non hx
  · exact e1_tup h
theorem acts_none (x : PyData) : actsF x = .none ∨ ∃ l : List Int, l.length ≤ 2 ∧ actsF x = .tuple (l.map .int) := by
  cases x with
  | tuple ds =>
    by_cases h : 8 < ds.length
    · exact .inr ⟨[4], by decide, by simp [actsF, h]⟩
    · cases e : loopA ds ds 0 with
      | some i => exact .inr ⟨[4, i], by simp, by simp [actsF, h, e]⟩
      | none =>
        by_cases q : (ds.any fun z => PyData.eqv z ptD) = true
        · exact .inl (by simp only [actsF, h, e, q, if_false, if_true])
        · exact .inr ⟨[4], by decide, by simp only [actsF, h, e, q, if_false]; rfl⟩
  | _ => exact .inr ⟨[4], by decide, rfl⟩
theorem e2_t {k : Nat} {a b c d x : PyData} (ha : a ∈ atoms) (hb : b ∈ atoms) (hc : c ∈ atoms) (hd : d ∈ atoms) (hx : Ac x) : Ψ (k + 3) 2 [.d (.tuple [a, b, c, d, x])] = some (plR (.tuple [a, b, c, d, x]) (plF a b c d x)) := by
  have run : (∃ δ, eSs (Ψ (k + 2)) D.sub f2.body [.sh (.d (.tuple [a, b, c, d, x])), .un, .un, .un] = some (.ex 1 (fl (plF a b c d x)) δ) ∧ plF a b c d x ≠ .none) ∨ (eSs (Ψ (k + 2)) D.sub f2.body [.sh (.d (.tuple [a, b, c, d, x])), .un, .un, .un] = some (.rt (.d (.tuple [a, b, c, d, x]))) ∧ plF a b c d x = .none) := by
    rw [f2_body]
    rw [sq_nx (δ' := [.sh (.d (.tuple [a, b, c, d, x])), .un, .un, .un]) (by rfl)]
    have ef : ∀ Φ : PC, eS Φ D.sub (.forS (.pair 2 3) (.enum (.glo "KINDS" KD)) (.cons s2k .nil)) [.sh (.d (.tuple [a, b, c, d, x])), .un, .un, .un] = forE (B2 Φ) [.tuple [.int (0 : Nat), .tuple (kD 0)], .tuple [.int (1 : Nat), .tuple (kD 1)], .tuple [.int (2 : Nat), .tuple (kD 2)], .tuple [.int (3 : Nat), .tuple (kD 3)]] [.sh (.d (.tuple [a, b, c, d, x])), .un, .un, .un] := fun Φ => by rw [eS]; rfl
    unfold plF
    by_cases qa : ¬ (isW a (kD 0) = true)
    · rw [if_neg qa]
      exact .inl ⟨_, sq_ex (by rw [ef, forE, B2_t (x := a) (by simp) rfl ha, if_neg qa]; rfl), (fun e => nomatch e)⟩
    have qa := Decidable.not_not.mp qa
    by_cases qb : ¬ (isW b (kD 1) = true)
    · rw [if_pos qa, if_neg qb]
      exact .inl ⟨_, sq_ex (by rw [ef, forE, B2_t (x := a) (by simp) rfl ha, if_pos qa]; simp only; rw [forE, B2_t (x := b) (by simp) rfl hb, if_neg qb]; rfl), (fun e => nomatch e)⟩
    have qb := Decidable.not_not.mp qb
    by_cases qc : ¬ (isW c (kD 2) = true)
    · rw [if_pos qa, if_pos qb, if_neg qc]
      exact .inl ⟨_, sq_ex (by rw [ef, forE, B2_t (x := a) (by simp) rfl ha, if_pos qa]; simp only; rw [forE, B2_t (x := b) (by simp) rfl hb, if_pos qb]; simp only; rw [forE, B2_t (x := c) (by simp) rfl hc, if_neg qc]; rfl), (fun e => nomatch e)⟩
    have qc := Decidable.not_not.mp qc
    by_cases qd : ¬ (isW d (kD 3) = true)
    · rw [if_pos qa, if_pos qb, if_pos qc, if_neg qd]
      exact .inl ⟨_, sq_ex (by rw [ef, forE, B2_t (x := a) (by simp) rfl ha, if_pos qa]; simp only; rw [forE, B2_t (x := b) (by simp) rfl hb, if_pos qb]; simp only; rw [forE, B2_t (x := c) (by simp) rfl hc, if_pos qc]; simp only; rw [forE, B2_t (x := d) (by simp) rfl hd, if_neg qd]; rfl), (fun e => nomatch e)⟩
    have qd := Decidable.not_not.mp qd
    rw [if_pos qa, if_pos qb, if_pos qc, if_pos qd]
    rw [sq_nx (by rw [ef, forE, B2_t (x := a) (by simp) rfl ha, if_pos qa]; simp only; rw [forE, B2_t (x := b) (by simp) rfl hb, if_pos qb]; simp only; rw [forE, B2_t (x := c) (by simp) rfl hc, if_pos qc]; simp only; rw [forE, B2_t (x := d) (by simp) rfl hd, if_pos qd]; rfl)]
    have h1 := e1_ac (k := k) hx
    have h4 : atS (.d (.tuple [a, b, c, d, x])) (.d (.int 4)) = some x := rfl
    rw [sq_nx (δ' := [.sh (.d (.tuple [a, b, c, d, x])), .sh (.d (actsF x)), .sh (.d (.int (3 : Nat))), .sh (.d (.tuple (kD 3)))]) (by simp only [s2c, es, eS, eE, eEs, bR, xF, List.getElem?_cons_zero, h4, Option.map, h1, asgT]; rfl)]
    rcases acts_none x with e | ⟨l, hl, e⟩
    · refine .inr ⟨?_, e⟩
      rw [e]
      simp [s2d, ss, eSs, eS, eT, eE, bR, xF, cmpS]
    · refine .inl ⟨[.sh (.d (.tuple [a, b, c, d, x])), .sh (.d (actsF x)), .sh (.d (.int (3 : Nat))), .sh (.d (.tuple (kD 3)))], ?_, by rw [e]; exact fun z => nomatch z⟩
      rw [e]
      refine sq_ex ?_
      simp only [s2d, ss, eSs, eS, eT, eE, bR, xF, cmpS, lD, List.getElem?_cons_zero, List.getElem?_cons_succ, Option.map, if_true]
      rfl
  rcases run with ⟨δ, e, h⟩ | ⟨e, h⟩
  · rw [show Ψ (k + 3) 2 [.d (.tuple [a, b, c, d, x])] = some (.ex 1 (fl (plF a b c d x))) from eC_ex (fn := f2) rfl rfl e]
    unfold plR
    split
    · rename_i q; exact absurd q h
    · rfl
  · rw [show Ψ (k + 3) 2 [.d (.tuple [a, b, c, d, x])] = some (.ok (.d (.tuple [a, b, c, d, x]))) from eC_rt (fn := f2) rfl rfl e, h]
    rfl
/-! ### things that are no tuples of five -/
def N5 (T : PyData) : Prop := ∀ xs, T = .tuple xs → xs.length ≠ 5
theorem ne5 {xs : List PyData} (h : xs.length ≠ 5) : cmpS .ne (.d (.int (xs.length : Nat))) (.d (.int 5)) = some true := by
  have h2 : ((xs.length : Nat) : Int) ≠ 5 := by omega
  simp [cmpS, eqS, SeqAt.shaped, PyData.canLay0, PyData.depth, PyData.eqv, h2]
theorem e2_n {k : Nat} {T : PyData} (h : N5 T) : Ψ (k + 1) 2 [.d T] = some (plR T (.tuple [])) := by
  refine eC_ex (fn := f2) rfl rfl (δ := [.sh (.d T), .un, .un, .un]) ?_
  rw [f2_body]
  refine sq_ex ?_
  show eS _ _ _ [.sh (.d T), .un, .un, .un] = _
  cases T with
  | tuple xs =>
    have := ne5 (h xs rfl)
    simp only [s2a, es, ss, eSs, eS, eT, eE, eEs, bR, xF, lD, bD, isiS, bltS, List.getElem?_cons_zero, Option.map, this]
    rfl
  | _ => rfl
theorem e5_n {k : Nat} {T : PyData} (h : N5 T) : Ψ (k + 2) 5 [.d T] = some (.ok (.d (.list (plL (.tuple []))))) := by
  refine eC_rt (fn := f5) rfl rfl ?_
  rw [f5_body]
  show eSs _ _ _ [.sh (.d T), .un, .un, .un, .un, .un, .un, .un] = _
  have h4 := e4 (k := k)
  rw [sq_nx (δ' := [.sh (.d T), .un, .sh (.d foundD), .sh (.d actsD), .un, .un, .un, .un]) (by simp [s50, eS, eE, eEs, es, bR, xF, h4, asgT])]
  refine sq_rt ?_
  cases T with
  | tuple xs =>
    have := ne5 (h xs rfl)
    simp only [s51, es, ss, eSs, eS, eT, eE, eEs, bR, xF, lD, bD, isiS, bltS, List.getElem?_cons_zero, Option.map, this]
    rfl
  | _ => rfl
/-! ### whether a thing is let by or refused as it must be -/
def s60 : S := .par 2 3 (.call 5 (es [(.var 0)])) (.blt .repr (es [(.var 0)]))
def s6a : S := .asg (.pair 5 6) (.tup (es [(.cst .none), (.cst .none)]))
def s6b : S := .tryS (ss [.asg (.name 5) (.call 2 (es [(.var 0)]))]) 0 4 6
def s6c : S := .ifs (.and2 (.cmp .is (.var 6) (.cst .none)) (.one (.or2 (.cmp .ne (.var 2) (.lst (es []))) (.one (.cmp .ne (.blt .repr (es [(.var 5)])) (.var 3)))))) (ss [.ret (.cst (.bool false))]) (ss [])
def s6d : S := .ifs (.and2 (.cmp .isnot (.var 6) (.cst .none)) (.one (.or2 (.not1 (.val (.isx 6 1))) (.one (.cmp .ne (.lst (es [(.fld 6 "place")])) (.var 2)))))) (ss [.ret (.cst (.bool false))]) (ss [])
def s6e : S := .ret (.cmp .eq (.blt .repr (es [(.var 0)])) (.var 3))
def b6 : Ss := .cons s6a (.cons s6b (.cons s6c (.cons s6d .nil)))
theorem f6_body : f6.body = .cons s60 (.cons (.forS (.name 1) (.rng (.cst (.int 2))) b6) (.cons s6e .nil)) := rfl
theorem ne_str {s : Str} (h : PyData.strOk s = true) : cmpS .ne (.d (.str s)) (.d (.str s)) = some false := by
  simp only [cmpS, eqS, str_shaped h, Bool.and_self, if_true, PyData.eqv, Option.map]
  simp
theorem ne_nil : cmpS .ne (.d (.list [])) (.d (.list [])) = some false := by rfl
theorem ne_self {p : PyData} (h : SeqAt.shaped (.list [p]) = true) : cmpS .ne (.d (.list [p])) (.d (.list [p])) = some false := by
  have : PyData.eqv (.list [p]) (.list [p]) = true := SeqAt.eqv_refl _ (SeqAt.canLay_of_shaped h)
  simp only [cmpS, eqS, h, Bool.and_self, if_true, Option.map, this]
  rfl
theorem b6_t {j d L : Nat} {T p : PyData} {i : PyData} {s5 s6 : Sl} (hT : Rp d L T) (hd : d ≤ 60) (hL : L ≤ 16777216) (hp : p = .none ∨ p ≠ .none ∧ SeqAt.shaped (.list [p]) = true) (h2 : Ψ j 2 [.d T] = some (plR T p)) : ∃ t5 t6 : Sl, eSs (Ψ j) D.sub b6 [.sh (.d T), .sh (.d i), .sh (.d (.list (plL p))), .sh (.d (.str T.shown)), .un, s5, s6] = some (.nx [.sh (.d T), .sh (.d i), .sh (.d (.list (plL p))), .sh (.d (.str T.shown)), .un, t5, t6]) := by
  have hr := hT.rep hd hL
  rcases hp with rfl | ⟨hn, hs⟩
  · have h2 : Ψ j 2 [.d T] = some (.ok (.d T)) := h2
    refine ⟨.sh (.d T), .sh (.d .none), ?_⟩
    have n1 := ne_str hT.ok
    have n2 := ne_nil
    have i1 : cmpS .is (.d .none) (.d .none) = some true := rfl
    have i2 : cmpS .isnot (.d .none) (.d .none) = some false := rfl
    show eSs _ _ _ [.sh (.d T), .sh (.d i), .sh (.d (.list [])), .sh (.d (.str T.shown)), .un, s5, s6] = some (.nx [.sh (.d T), .sh (.d i), .sh (.d (.list [])), .sh (.d (.str T.shown)), .un, _, _])
    rw [b6, sq_nx (δ' := [.sh (.d T), .sh (.d i), .sh (.d (.list [])), .sh (.d (.str T.shown)), .un, .sh (.d .none), .sh (.d .none)]) (by rfl)]
    rw [sq_nx (δ' := [.sh (.d T), .sh (.d i), .sh (.d (.list [])), .sh (.d (.str T.shown)), .un, .sh (.d T), .sh (.d .none)]) (by simp [s6b, ss, es, eS, eSs, eE, eEs, bR, xF, h2, asgT])]
    rw [sq_nx (δ' := [.sh (.d T), .sh (.d i), .sh (.d (.list [])), .sh (.d (.str T.shown)), .un, .sh (.d T), .sh (.d .none)]) (by simp [s6c, ss, es, eS, eSs, eT, eE, eEs, bR, xF, bD, i1, n1, n2, hr, allD, okLen])]
    rw [sq_nx (δ' := [.sh (.d T), .sh (.d i), .sh (.d (.list [])), .sh (.d (.str T.shown)), .un, .sh (.d T), .sh (.d .none)]) (by simp [s6d, ss, es, eS, eSs, eT, eE, eEs, bR, xF, bD, i2])]
    rfl
  · have e1 : plL p = [p] := by cases p <;> first | rfl | exact absurd rfl hn
    have e2 : plR T p = .ex 1 (fl p) := by cases p <;> first | rfl | exact absurd rfl hn
    rw [e2] at h2
    rw [e1]
    refine ⟨.sh (.d .none), .sh (.exc 1 (fl p)), ?_⟩
    have n1 := ne_self hs
    have l1 : (fl p).lookup ("place" : Str) = some p := by simp [fl, List.lookup]
    have i1 : cmpS .is (.exc 1 (fl p)) (.d .none) = some false := rfl
    have i2 : cmpS .isnot (.exc 1 (fl p)) (.d .none) = some true := rfl
    have u0 : D.sub 1 0 = true := rfl
    have u1 : D.sub 1 1 = true := rfl
    rw [b6, sq_nx (δ' := [.sh (.d T), .sh (.d i), .sh (.d (.list [p])), .sh (.d (.str T.shown)), .un, .sh (.d .none), .sh (.d .none)]) (by rfl)]
    rw [sq_nx (δ' := [.sh (.d T), .sh (.d i), .sh (.d (.list [p])), .sh (.d (.str T.shown)), .un, .sh (.d .none), .sh (.exc 1 (fl p))]) (by simp [s6b, ss, es, eS, eSs, eE, eEs, bR, xF, h2, u0])]
    rw [sq_nx (δ' := [.sh (.d T), .sh (.d i), .sh (.d (.list [p])), .sh (.d (.str T.shown)), .un, .sh (.d .none), .sh (.exc 1 (fl p))]) (by simp [s6c, ss, es, eS, eSs, eT, eE, eEs, bR, xF, bD, i1])]
    rw [sq_nx (δ' := [.sh (.d T), .sh (.d i), .sh (.d (.list [p])), .sh (.d (.str T.shown)), .un, .sh (.d .none), .sh (.exc 1 (fl p))]) (by simp [s6d, ss, es, eS, eSs, eT, eE, eEs, bR, xF, bD, i2, u1, l1, n1, allD, okLen])]
    rfl
theorem e6_t {j d L : Nat} {T p : PyData} (hT : Rp d L T) (hd : d ≤ 60) (hL : L ≤ 16777216) (hp : p = .none ∨ p ≠ .none ∧ SeqAt.shaped (.list [p]) = true) (h2 : Ψ j 2 [.d T] = some (plR T p)) (h5 : Ψ j 5 [.d T] = some (.ok (.d (.list (plL p))))) : Ψ (j + 1) 6 [.d T] = some (.ok (.d (.bool true))) := by
  refine eC_rt (fn := f6) rfl rfl ?_
  rw [f6_body]
  show eSs _ _ _ [.sh (.d T), .un, .un, .un, .un, .un, .un] = _
  have hr := hT.rep hd hL
  rw [sq_nx (δ' := [.sh (.d T), .un, .sh (.d (.list (plL p))), .sh (.d (.str T.shown)), .un, .un, .un]) (by simp only [s60, es, eS, eE, eEs, bR, xF, List.getElem?_cons_zero, h5, hr, Option.map, List.set])]
  obtain ⟨t5, t6, a1⟩ := b6_t (j := j) (i := .int (0 : Nat)) (s5 := .un) (s6 := .un) hT hd hL hp h2
  obtain ⟨u5, u6, a2⟩ := b6_t (j := j) (i := .int (1 : Nat)) (s5 := t5) (s6 := t6) hT hd hL hp h2
  have ef : eS (Ψ j) D.sub (.forS (.name 1) (.rng (.cst (.int 2))) b6) [.sh (.d T), .un, .sh (.d (.list (plL p))), .sh (.d (.str T.shown)), .un, .un, .un] = some (.nx [.sh (.d T), .sh (.d (.int (1 : Nat))), .sh (.d (.list (plL p))), .sh (.d (.str T.shown)), .un, u5, u6]) := by
    rw [eS]
    show forE (fun x δ1 => match asgT (.name 1) (.d x) δ1 with
      | some δ2 => eSs (Ψ j) D.sub b6 δ2
      | none => none) [.int (0 : Nat), .int (1 : Nat)] _ = _
    simp only [forE, asgT, List.set, a1, a2]
  rw [sq_nx ef, eSs]
  have q := eq_str hT.ok hT.ok
  simp only [s6e, es, eS, eE, eEs, bR, xF, List.getElem?_cons_zero, List.getElem?_cons_succ, hr, Option.map, q, decide_true]
end K52

set_option Elab.async false
set_option linter.all false
set_option maxRecDepth 100000
set_option maxHeartbeats 1000000
namespace K52
open PySem NC
theorem ints_ok : ∀ l : List Int, PyData.canLayAll0 (l.map .int) = true ∧ PyData.depthAll (l.map .int) = 0
  | [] => by simp [PyData.canLayAll0, PyData.depthAll]
  | x :: l => by
    have := ints_ok l
    rw [List.map_cons, PyData.canLayAll0, PyData.depthAll, this.1, this.2]
    simp [PyData.canLay0, PyData.depth]
theorem tup_ok (l : List Int) : SeqAt.shaped (.list [.tuple (l.map .int)]) = true := by
  have := ints_ok l
  simp [SeqAt.shaped, PyData.canLay0, PyData.canLayAll0, PyData.depth, PyData.depthAll, this.1, this.2]
theorem plF_ok (a b c d x : PyData) : plF a b c d x = .none ∨ plF a b c d x ≠ .none ∧ SeqAt.shaped (.list [plF a b c d x]) = true := by
  unfold plF
  by_cases qa : isW a (kD 0) = true
  · by_cases qb : isW b (kD 1) = true
    · by_cases qc : isW c (kD 2) = true
      · by_cases qd : isW d (kD 3) = true
        · rw [if_pos qa, if_pos qb, if_pos qc, if_pos qd]
          rcases acts_none x with e | ⟨l, _, e⟩
          · exact .inl e
          · rw [e]; exact .inr ⟨(fun z => nomatch z), tup_ok l⟩
        · rw [if_pos qa, if_pos qb, if_pos qc, if_neg qd]; exact .inr ⟨(fun z => nomatch z), tup_ok [3]⟩
      · rw [if_pos qa, if_pos qb, if_neg qc]; exact .inr ⟨(fun z => nomatch z), tup_ok [2]⟩
    · rw [if_pos qa, if_neg qb]; exact .inr ⟨(fun z => nomatch z), tup_ok [1]⟩
  · rw [if_neg qa]; exact .inr ⟨(fun z => nomatch z), tup_ok [0]⟩
inductive Th : PyData → Prop
  | five {a b c d x : PyData} (ha : a ∈ atoms) (hb : b ∈ atoms) (hc : c ∈ atoms) (hd : d ∈ atoms) (hx : Ac x) (r : Rp 4 20000 (.tuple [a, b, c, d, x])) : Th (.tuple [a, b, c, d, x])
  | other {T : PyData} (n : N5 T) (r : Rp 4 20000 T) : Th T
theorem right {k : Nat} {T : PyData} (h : Th T) : Ψ (k + 4) 6 [.d T] = some (.ok (.d (.bool true))) := by
  cases h with
  | five ha hb hc hd hx r => exact e6_t r (by omega) (by omega) (plF_ok _ _ _ _ _) (e2_t ha hb hc hd hx) (e5_t (k := k + 1) ha hb hc hd hx)
  | other n r => exact e6_t (p := .tuple []) r (by omega) (by omega) (.inr ⟨(fun z => nomatch z), tup_ok []⟩) (e2_n (k := k + 2) n) (e5_n (k := k + 1) n)
def El (x : PyData) : Prop := x ∈ atoms ∨ ∃ ds : List PyData, (∀ y ∈ ds, y ∈ atoms) ∧ ds.length ≤ 20 ∧ (x = .tuple ds ∨ x = .list ds)
theorem El.rp {x : PyData} (h : El x) : Rp 3 643 x := by
  rcases h with h | ⟨ds, h1, h2, rfl | rfl⟩
  · exact (at_rp h).wide (by omega) (by omega)
  · exact rp_tuple (fun y hy => at_rp (h1 y hy)) h2
  · exact rp_list (fun y hy => at_rp (h1 y hy)) h2
theorem own_at : (.str (Str.ofString "own") : PyData) ∈ atoms := by simp [atoms, oddA]
theorem at_tup : ∀ x ∈ atoms, (match x with | .tuple [] => true | .tuple [.str s] => decide (s = Str.ofString "own") | .tuple _ => false | _ => true) = true := by decide +kernel
theorem El.ac {x : PyData} (h : El x) : Ac x := by
  rcases h with h | ⟨ds, h1, h2, rfl | rfl⟩
  · cases x with
    | tuple ds =>
      refine .inr ⟨ds, rfl, ?_⟩
      have := at_tup _ h
      split at this
      · rename_i e; cases e; exact fun z hz => nomatch hz
      · rename_i s e; cases e
        intro z hz
        rw [List.mem_singleton.mp hz, of_decide_eq_true this]
        exact own_at
      · exact absurd this Bool.false_ne_true
      · rename_i q; exact absurd rfl (q ds)
    | _ => exact .inl fun ds e => nomatch e
  · exact .inr ⟨ds, rfl, h1⟩
  · exact .inl fun ds e => nomatch e
theorem th_tup {xs : List PyData} (h : ∀ y ∈ xs, El y) (hl : xs.length ≤ 20) (h4 : ∀ y ∈ xs.take 4, xs.length = 5 → y ∈ atoms) : Th (.tuple xs) := by
  have r : Rp 4 20000 (.tuple xs) := (rp_tuple (fun y hy => (h y hy).rp) hl).wide (by omega) (by omega)
  by_cases e : xs.length = 5
  · match xs, e, r, h, h4 with
    | [a, b, c, d, x], _, r, h, h4 => exact .five (h4 a (by simp) rfl) (h4 b (by simp) rfl) (h4 c (by simp) rfl) (h4 d (by simp) rfl) (h x (by simp)).ac r
  · exact .other (fun ys ey => by cases ey; exact e) r
theorem th_list {xs : List PyData} (h : ∀ y ∈ xs, El y) (hl : xs.length ≤ 20) : Th (.list xs) :=
  .other (fun ys ey => nomatch ey) ((rp_list (fun y hy => (h y hy).rp) hl).wide (by omega) (by omega))
theorem th_atom {x : PyData} (h : x ∈ atoms) : Th x := .other (fun ys ey => by
  subst ey
  have := at_tup _ h
  split at this
  · rename_i e; cases e; decide
  · rename_i s e; cases e; simp
  · exact absurd this Bool.false_ne_true
  · rename_i q; exact absurd rfl (q ys)) ((at_rp h).wide (by omega) (by omega))
/-! ### right acts -/
theorem ws_at : ∀ x ∈ wsD, x ∈ atoms := fun x h => by
  unfold atoms
  exact List.mem_append_left _ (List.mem_append_right _ h)
theorem ws_isW : ∀ x ∈ wsD, isW x wsD = true := by decide +kernel
theorem q1 : ∀ x ∈ wsD, ∀ y ∈ wsD, PyData.eqv x y = true → ∀ z ∈ wsD, PyData.eqv z y = PyData.eqv z x := by decide +kernel
theorem q2 : ∀ x ∈ wsD, PyData.eqv x x = true := by decide +kernel
theorem q3 : ∀ x ∈ wsD, PyData.eqv x ptD = true → ∀ z ∈ wsD, PyData.eqv z ptD = false → PyData.eqv z x = false := by decide +kernel
theorem q4 : ∀ x ∈ wsD, PyData.eqv x ptD = false → PyData.eqv ptD x = false := by decide +kernel
theorem pt_ws : ptD ∈ wsD := by simp [wsD, txts, wordsS, ptD]
structure Pre (ds : List PyData) : Prop where
  w : ∀ z ∈ ds, z ∈ wsD
  np : ∀ z ∈ ds, PyData.eqv z ptD = false
  two : ∀ x ∈ wsD, (ds.countP fun z => PyData.eqv z x) ≤ 2
theorem Pre.snoc {ds : List PyData} {x : PyData} (h : Pre ds) (hx : x ∈ wsD) (hp : PyData.eqv x ptD = false) (hc : (ds.countP fun z => PyData.eqv z x) < 2) : Pre (ds ++ [x]) := by
  refine ⟨fun z hz => ?_, fun z hz => ?_, fun y hy => ?_⟩
  · rcases List.mem_append.mp hz with q | q
    · exact h.w z q
    · rw [List.mem_singleton.mp q]; exact hx
  · rcases List.mem_append.mp hz with q | q
    · exact h.np z q
    · rw [List.mem_singleton.mp q]; exact hp
  · rw [List.countP_append, List.countP_singleton]
    by_cases e : PyData.eqv x y = true
    · have : (ds.countP fun z => PyData.eqv z y) = ds.countP fun z => PyData.eqv z x := by
        refine List.countP_congr fun z hz => ?_
        rw [q1 x hx y hy e z (h.w z hz)]
      rw [this, if_pos e]; omega
    · rw [if_neg e]; exact h.two y hy
theorem loopA_none {ds : List PyData} (h : ∀ i x, ds[i]? = some x → badA ds i x = false) : ∀ r pre : List PyData, ds = pre ++ r → loopA ds r pre.length = none
  | [], pre, _ => rfl
  | x :: r, pre, e => by
    have hx : ds[pre.length]? = some x := by rw [e]; simp
    have ih := loopA_none h r (pre ++ [x]) (by rw [e]; simp)
    rw [List.length_append, List.length_singleton] at ih
    rw [loopA, h _ _ hx, ih]; rfl
theorem acts_ok {a b : List PyData} (h : Pre (a ++ b)) (hl : (a ++ ptD :: b).length ≤ 8) : actsF (.tuple (a ++ ptD :: b)) = .none := by
  have hw : ∀ z ∈ a ++ ptD :: b, z ∈ wsD := fun z hz => by
    rcases List.mem_append.mp hz with q | q
    · exact h.w z (List.mem_append_left _ q)
    · cases q with
      | head => exact pt_ws
      | tail _ q => exact h.w z (List.mem_append_right _ q)
  have bad : ∀ i x, (a ++ ptD :: b)[i]? = some x → badA (a ++ ptD :: b) i x = false := fun i x e => by
    have hx := hw x (List.mem_of_getElem? e)
    have c : isW x (txts wordsS) = true := ws_isW x hx
    have split : a ++ ptD :: b = (a ++ ptD :: b).take i ++ x :: (a ++ ptD :: b).drop (i + 1) := by
      obtain ⟨hi, e2⟩ := List.getElem?_eq_some_iff.mp e
      conv => lhs; rw [← List.take_append_drop i (a ++ ptD :: b), List.drop_eq_getElem_cons hi, e2]
    unfold badA
    rw [c, Bool.not_true, Bool.false_or]
    by_cases p : PyData.eqv x ptD = true
    · have hi : i = a.length := by
        rcases Nat.lt_trichotomy i a.length with q | q | q
        · rw [List.getElem?_append_left q] at e
          have := h.np x (List.mem_append_left _ (List.mem_of_getElem? e))
          rw [p] at this; cases this
        · exact q
        · rw [List.getElem?_append_right (by omega)] at e
          obtain ⟨m, hm⟩ : ∃ m, i - a.length = m + 1 := ⟨i - a.length - 1, by omega⟩
          rw [hm, List.getElem?_cons_succ] at e
          have := h.np x (List.mem_append_right _ (List.mem_of_getElem? e))
          rw [p] at this; cases this
      subst hi
      rw [List.take_left, if_pos p]
      have : (a.countP fun z => PyData.eqv z x) = 0 := List.countP_eq_zero.mpr fun z hz => by
        rw [q3 x hx p z (h.w z (List.mem_append_left _ hz)) (h.np z (List.mem_append_left _ hz))]; exact Bool.false_ne_true
      rw [this]; rfl
    · rw [if_neg p]
      have p : PyData.eqv x ptD = false := by simpa using p
      have t := h.two x hx
      have e1 : ((a ++ ptD :: b).countP fun z => PyData.eqv z x) = (a ++ b).countP fun z => PyData.eqv z x := by
        rw [List.countP_append, List.countP_cons, List.countP_append, q4 x hx p]; simp
      have e2 : ((a ++ ptD :: b).countP fun z => PyData.eqv z x) = (((a ++ ptD :: b).take i).countP fun z => PyData.eqv z x) + (((a ++ ptD :: b).drop (i + 1)).countP (fun z => PyData.eqv z x) + 1) := by
        conv => lhs; rw [split, List.countP_append, List.countP_cons, q2 x hx]
        simp
      exact decide_eq_false (by omega)
  have l0 : loopA (a ++ ptD :: b) (a ++ ptD :: b) 0 = none := loopA_none bad _ [] rfl
  have an : ((a ++ ptD :: b).any fun z => PyData.eqv z ptD) = true := List.any_eq_true.mpr ⟨ptD, by simp, q2 ptD pt_ws⟩
  have hl2 : ¬ 8 < (a ++ ptD :: b).length := by omega
  simp only [actsF, hl2, l0, an, if_true, if_false]
end K52

set_option Elab.async false
set_option linter.all false
set_option maxRecDepth 100000
set_option maxHeartbeats 1000000
namespace K52
open PySem NC
abbrev Ca (k : Nat) : Calls := calls D.fns D.sub k
theorem detS {k : Nat} {s : S} {r : Ss} {δ δ' : NC.Env} {g : Nat} {E : SEnds} {R : XPost} (h : eS (Ψ k) D.sub s δ = some (.nx δ')) (w : wSs (Ca k) D.sub r δ' g E R) : wSs (Ca k) D.sub (.cons s r) δ g E R := by
  unfold wSs
  exact vS (eC_ok D.fns D.sub k) s δ g _ R _ h w
theorem detRt {k : Nat} {s : Ss} {δ : NC.Env} {g : Nat} {E : SEnds} {R : XPost} {v : VD} (h : eSs (Ψ k) D.sub s δ = some (.rt v)) (w : E.rt v g) : wSs (Ca k) D.sub s δ g E R := vSs (eC_ok D.fns D.sub k) s δ g E R _ h w
theorem detE {k : Nat} {e : E} {δ : NC.Env} {g : Nat} {Q : Post} {R : XPost} {v : VD} (h : eE (Ψ k) D.sub e δ = some (.ok v)) (w : Q v g) : wE (Ca k) D.sub e δ g Q R := vE (eC_ok D.fns D.sub k) e δ g Q R _ h w
/-! ### a drawn manner -/
theorem ws_cmpB : ∀ z ∈ wsD, ∀ x ∈ wsD, (match cmpS .eq (.d z) (.d x) with | some b => b == PyData.eqv z x | none => false) = true := by decide +kernel
theorem ws_cmp {z x : PyData} (hz : z ∈ wsD) (hx : x ∈ wsD) : cmpS .eq (.d z) (.d x) = some (PyData.eqv z x) := by
  have q := ws_cmpB z hz x hx
  split at q
  · rename_i b e; rw [e, beq_iff_eq.mp q]
  · cases q
theorem ws_neB : ∀ z ∈ wsD, (match cmpS .ne (.d z) (.d ptD) with | some b => b == !PyData.eqv z ptD | none => false) = true := by decide +kernel
theorem ws_ne {z : PyData} (hz : z ∈ wsD) : cmpS .ne (.d z) (.d ptD) = some (!PyData.eqv z ptD) := by
  have q := ws_neB z hz
  split at q
  · rename_i b e; rw [e, beq_iff_eq.mp q]
  · cases q
def c8 : E := .comp (.var 8) (.name 8) (.seq (.peek 2)) (.som (.cmp .eq (.var 8) (.var 3)))
def s7i : S := .ifs (.and2 (.cmp .ne (.var 3) (.cst ptD)) (.one (.cmp .lt (.blt .len (es [c8])) (.cst (.int 2))))) (.cons (.app 2 (.var 3)) .nil) .nil
def s70 : S := .asg (.pair 4 5) (.call 4 (es []))
def s71 : S := .asg (.name 1) (.comp (.call 3 (es [(.var 0), (.var 5)])) (.name 6) (.rng (.draw 0 (.cst (.int 8)))) .non)
def s73 : S := .forS (.name 3) (.seq (.var 1)) (.cons s7i .nil)
def s74 : S := .ins 2 (.draw 0 (.bin .add (.blt .len (es [(.peek 2)])) (.cst (.int 1)))) (.cst ptD)
def c9 : E := .comp (.call 3 (es [(.var 0), (.var 7)])) (.name 7) (.seq (.var 4)) .non
def s75 : S := .ret (.bin .add (.blt .tuple (es [c9])) (.tup (es [(.blt .tuple (es [(.peek 2)]))])))
theorem f7_body : f7.body = .cons s70 (.cons s71 (.cons (.own 2 (.lst (es []))) (.cons s73 (.cons s74 (.cons s75 .nil))))) := rfl
theorem c8_t {Φ : PC} {ds : List PyData} {x : PyData} {s0 s1 s4 s5 s6 s7 s8 : Sl} (hd : ∀ z ∈ ds, z ∈ wsD) (hl : ds.length ≤ 100) (hx : x ∈ wsD) : eE Φ D.sub c8 [s0, s1, .ow ds, .sh (.d x), s4, s5, s6, s7, s8] = some (.ok (.d (.list (ds.filter fun z => PyData.eqv z x)))) := by
  simp only [c8, eE, eIt, bR, List.getElem?_cons_zero, List.getElem?_cons_succ, Option.map, itS]
  rw [compE_filter (fun z => PyData.eqv z x) ds [] (fun w hw => ?_) (by simp only [List.length_nil]; omega)]
  · rfl
  · have h2 := ws_cmp (hd w hw) hx
    by_cases q : PyData.eqv w x = true
    · rw [q] at h2
      simp [asgT, wipeD, Tg.slots, eTO, eT, eE, eEs, es, bR, h2, pureR, lD, q]
    · rw [Bool.not_eq_true] at q
      rw [q] at h2
      simp [asgT, wipeD, Tg.slots, eTO, eT, eE, eEs, es, bR, h2, pureR, lD, q]
theorem s7i_t {Φ : PC} {ds : List PyData} {x : PyData} {s0 s1 s4 s5 s6 s7 s8 : Sl} (hd : Pre ds) (hl : ds.length ≤ 100) (hx : x ∈ wsD) : ∃ ds', Pre ds' ∧ ds'.length ≤ ds.length + 1 ∧ eSs Φ D.sub (.cons s7i .nil) [s0, s1, .ow ds, .sh (.d x), s4, s5, s6, s7, s8] = some (.nx [s0, s1, .ow ds', .sh (.d x), s4, s5, s6, s7, s8]) := by
  have hc := c8_t (Φ := Φ) (s0 := s0) (s1 := s1) (s4 := s4) (s5 := s5) (s6 := s6) (s7 := s7) (s8 := s8) hd.w hl hx
  have hn := ws_ne hx
  have h3 : (ds.filter fun z => PyData.eqv z x).length = ds.countP fun z => PyData.eqv z x := List.countP_eq_length_filter.symm
  have hll : eE Φ D.sub (.blt .len (es [c8])) [s0, s1, .ow ds, .sh (.d x), s4, s5, s6, s7, s8] = some (.ok (.d (.int ((ds.countP fun z => PyData.eqv z x : Nat) : Int)))) := by
    simp only [es, eE, eEs, bR, hc, bltS, Option.map, h3]
  have hv : eE Φ D.sub (.var 3) [s0, s1, .ow ds, .sh (.d x), s4, s5, s6, s7, s8] = some (.ok (.d x)) := by simp [eE]
  have hk : ∀ d δ, eE Φ D.sub (.cst d) δ = some (.ok (.d d)) := fun d δ => by simp [eE]
  have hlt : cmpS .lt (.d (.int ((ds.countP fun z => PyData.eqv z x : Nat) : Int))) (.d (.int 2)) = some (decide (((ds.countP fun z => PyData.eqv z x : Nat) : Int) < 2)) := rfl
  by_cases p : PyData.eqv x ptD = true
  · rw [p] at hn
    refine ⟨ds, hd, by omega, ?_⟩
    simp only [eSs, s7i, eS, eT, bR, hv, hk, hn, Option.map, Bool.not_true, Bool.false_eq_true, if_false, xF]
  · rw [Bool.not_eq_true] at p
    rw [p] at hn
    by_cases q : (ds.countP fun z => PyData.eqv z x) < 2
    · refine ⟨ds ++ [x], hd.snoc hx p q, by simp, ?_⟩
      have q2 : ((ds.countP fun z => PyData.eqv z x : Nat) : Int) < 2 := by omega
      have ha : eS Φ D.sub (.app 2 (.var 3)) [s0, s1, .ow ds, .sh (.d x), s4, s5, s6, s7, s8] = some (.nx [s0, s1, .ow (ds ++ [x]), .sh (.d x), s4, s5, s6, s7, s8]) := by
        have : ds.length < 16777216 := by omega
        simp [eS, eE, xF, lD, this]
      simp only [eSs, s7i, eS.eq_6, eT, bR, hv, hk, hn, hll, hlt, q2, decide_true, Option.map, Bool.not_false, if_true, xF, ha]
    · refine ⟨ds, hd, by omega, ?_⟩
      have q2 : ¬ ((ds.countP fun z => PyData.eqv z x : Nat) : Int) < 2 := by omega
      simp only [eSs, s7i, eS.eq_6, eT, bR, hv, hk, hn, hll, hlt, q2, decide_false, Option.map, Bool.not_false, if_true, Bool.false_eq_true, if_false, xF]
def B7 (Φ : PC) : PyData → NC.Env → Option Fl := fun x δ1 => match asgT (.name 3) (.d x) δ1 with
  | some δ2 => eSs Φ D.sub (.cons s7i .nil) δ2
  | none => none
theorem loop7 {Φ : PC} {s0 s1 s4 s5 s6 s7 s8 : Sl} : ∀ (r ds : List PyData) (s3 : Sl), Pre ds → ds.length + r.length ≤ 100 → (∀ z ∈ r, z ∈ wsD) → ∃ ds' t3, Pre ds' ∧ ds'.length ≤ ds.length + r.length ∧ forE (B7 Φ) r [s0, s1, .ow ds, s3, s4, s5, s6, s7, s8] = some (.nx [s0, s1, .ow ds', t3, s4, s5, s6, s7, s8])
  | [], ds, s3, h, _, _ => ⟨ds, s3, h, by simp, rfl⟩
  | x :: r, ds, s3, h, hl, hr => by
    simp only [List.length_cons] at hl
    obtain ⟨d1, p1, l1, e1⟩ := s7i_t (Φ := Φ) (s0 := s0) (s1 := s1) (s4 := s4) (s5 := s5) (s6 := s6) (s7 := s7) (s8 := s8) h (by omega) (hr x (List.mem_cons_self ..))
    obtain ⟨d2, t3, p2, l2, e2⟩ := loop7 (Φ := Φ) (s0 := s0) (s1 := s1) (s4 := s4) (s5 := s5) (s6 := s6) (s7 := s7) (s8 := s8) r d1 (.sh (.d x)) p1 (by omega) fun z hz => hr z (List.mem_cons_of_mem _ hz)
    refine ⟨d2, t3, p2, by simp only [List.length_cons]; omega, ?_⟩
    rw [forE, show B7 Φ x [s0, s1, .ow ds, s3, s4, s5, s6, s7, s8] = _ from e1]
    exact e2
end K52

set_option Elab.async false
set_option linter.all false
set_option maxRecDepth 100000
set_option maxHeartbeats 1000000
namespace K52
open PySem NC
theorem rng_ok {e : E} {n : Int} (h0 : 0 ≤ n) (h1 : n < 1000000) : itS (.rng e) (.d (.int n)) = some ((List.range n.toNat).map fun k => .int (k : Nat)) := by
  simp only [itS]
  rw [if_pos]
  simp only [Bool.and_eq_true, decide_eq_true_eq]
  constructor <;> omega
def Mn (m : PyData) : Prop := ∃ a b c d p r, a ∈ kD 0 ∧ b ∈ kD 1 ∧ c ∈ kD 2 ∧ d ∈ kD 3 ∧ Pre (p ++ r) ∧ (p ++ ptD :: r).length ≤ 8 ∧ m = .tuple [a, b, c, d, .tuple (p ++ ptD :: r)]
theorem c9_ok {k g : Nat} {s1 s2 s3 s5 s6 s7 s8 : Sl} {Q : Post} {R : XPost} (hg : g + 4 ≤ 1000000) (q : ∀ a b c d g', a ∈ kD 0 → b ∈ kD 1 → c ∈ kD 2 → d ∈ kD 3 → g' ≤ g + 4 → Q (.d (.list [a, b, c, d])) g') : wE (Ca (k + 1)) D.sub c9 [.sh .sta, s1, s2, s3, .sh (.d foundD), s5, s6, s7, s8] g Q R := by
  unfold c9
  refine NC.wE_comp.mpr ?_
  unfold wC wIt wE
  refine ⟨_, rfl, _, rfl, ?_⟩
  refine compW_draw (n := 0) (k := 1) (b := g + 4) (p := fun x _ y => ∃ l : List PyData, x = .list l ∧ y ∈ l) (fun x hx g1 P hb hP => ?_) (by decide) (by simp [kindsS]) (fun ys g1 e1 e2 e3 => ?_)
  · have hx2 : ∃ l : List PyData, x = .list l ∧ l ≠ [] ∧ l.length < 1000 := by
      simp only [kindsS, List.map, List.mem_cons, List.not_mem_nil, or_false] at hx
      rcases hx with rfl | rfl | rfl | rfl <;> exact ⟨_, rfl, by simp [txts], by simp [txts]⟩
    obtain ⟨l, rfl, h0, h1⟩ := hx2
    refine ⟨_, rfl, ?_⟩
    unfold wTO
    simp only [if_true]
    unfold wE es wEs wE
    refine ⟨_, rfl, ?_⟩
    unfold es wEs wE
    refine ⟨_, rfl, ?_⟩
    unfold es wEs
    refine f3_ok h0 h1 (by omega) fun y hy => ⟨y, rfl, hP y _ ⟨l, rfl, hy⟩ (by omega)⟩
  · have e1 : ys.length = 4 := e1
    match ys, e1, e2, e3 with
    | [a, b, c, d], _, e2, e3 =>
      obtain ⟨x0, _, p0, l0, r0, m0⟩ := e2 0 a rfl
      obtain ⟨x1, _, p1, l1, r1, m1⟩ := e2 1 b rfl
      obtain ⟨x2, _, p2, l2, r2, m2⟩ := e2 2 c rfl
      obtain ⟨x3, _, p3, l3, r3, m3⟩ := e2 3 d rfl
      cases p0; cases r0; cases p1; cases r1; cases p2; cases r2; cases p3; cases r3
      exact q a b c d g1 m0 m1 m2 m3 (by simpa [kindsS] using e3)
theorem f7_ok {k g : Nat} {Q : Post} {R : Nat → List (Str × PyData) → Nat → Prop} (hg : g + 13 ≤ 1000000) (q : ∀ m g', Mn m → g' ≤ g + 13 → Q (.d m) g') : Ca (k + 2) 7 [.sta] g Q R := by
  refine ⟨f7, rfl, rfl, ?_⟩
  rw [f7_body]
  show wSs (Ca (k + 1)) D.sub _ [.sh .sta, .un, .un, .un, .un, .un, .un, .un, .un] g _ _
  have h4 := e4 (k := k)
  refine detS (δ' := [.sh .sta, .un, .un, .un, .sh (.d foundD), .sh (.d actsD), .un, .un, .un]) (by simp [s70, eS, eE, eEs, es, bR, xF, h4, asgT]) ?_
  unfold wSs s71 wS
  refine NC.wE_comp.mpr ?_
  unfold wC wIt wE
  refine ⟨rfl, ?_⟩
  unfold wE
  refine ⟨8, rfl, by decide, by decide, by omega, fun n n0 n1 => ⟨_, rng_ok n0 (by omega), ?_⟩⟩
  have hl : ((List.range n.toNat).map fun k => PyData.int (k : Nat)).length ≤ 7 := by simp; omega
  refine compW_draw (n := 0) (k := 1) (b := g + 8) (p := fun _ _ y => y ∈ wsD) (fun x hx g1 P hb hP => ?_) (by simp only [List.length_nil]; omega) (by omega) (fun rows g1 e1 e2 e3 => ?_)
  · refine ⟨_, rfl, ?_⟩
    unfold wTO
    simp only [if_true]
    unfold wE es wEs wE
    refine ⟨_, rfl, ?_⟩
    unfold es wEs wE
    refine ⟨_, rfl, ?_⟩
    unfold es wEs
    refine f3_ok (by decide) (by decide) (by omega) fun y hy => ⟨y, rfl, hP y _ hy (by omega)⟩
  · have hrows : ∀ y ∈ rows, y ∈ wsD := fun y hy => by
      obtain ⟨i, hi⟩ := List.getElem?_of_mem hy
      obtain ⟨x, g0, _, h⟩ := e2 i y hi
      exact h
    refine ⟨_, rfl, ?_⟩
    show wSs (Ca (k + 1)) D.sub _ [.sh .sta, .sh (.d (.list rows)), .un, .un, .sh (.d foundD), .sh (.d actsD), .un, .un, .un] g1 _ _
    refine detS (δ' := [.sh .sta, .sh (.d (.list rows)), .ow [], .un, .sh (.d foundD), .sh (.d actsD), .un, .un, .un]) (by rfl) ?_
    obtain ⟨ds, t3, pre, hlen, ef⟩ := loop7 (Φ := Ψ (k + 1)) (s0 := .sh .sta) (s1 := .sh (.d (.list rows))) (s4 := .sh (.d foundD)) (s5 := .sh (.d actsD)) (s6 := .un) (s7 := .un) (s8 := .un) rows [] .un ⟨by simp, by simp, by simp⟩ (by simp only [List.length_nil]; omega) hrows
    refine detS (δ' := [.sh .sta, .sh (.d (.list rows)), .ow ds, t3, .sh (.d foundD), .sh (.d actsD), .un, .un, .un]) (by rw [s73, eS]; exact ef) ?_
    simp only [List.length_nil, Nat.zero_add] at hlen
    have hl2 : ds.length ≤ 7 := by omega
    unfold wSs s74 wS
    refine ⟨ds, rfl, ?_⟩
    unfold wE
    refine ⟨rfl, ?_⟩
    refine detE (v := .d (.int ((ds.length : Nat) + 1))) (by simp [eE, eEs, es, bR, bltS, binS, addS]) ?_
    refine ⟨_, rfl, by omega, by omega, by omega, fun m m0 m1 => ?_⟩
    unfold wE
    refine ⟨m, ptD, rfl, rfl, m0, by omega, by omega, ?_⟩
    show wSs (Ca (k + 1)) D.sub _ [.sh .sta, .sh (.d (.list rows)), .ow (ds.take m.toNat ++ ptD :: ds.drop m.toNat), t3, .sh (.d foundD), .sh (.d actsD), .un, .un, .un] (g1 + 1) _ _
    unfold wSs s75 wS wE
    unfold wE es wEs
    refine c9_ok (by omega) fun a b c d g2 ha hb hc hd hg2 => ?_
    unfold es wEs
    refine ⟨_, rfl, ?_⟩
    refine detE (v := .d (.tuple [.tuple (ds.take m.toNat ++ ptD :: ds.drop m.toNat)])) (by simp [eE, eEs, es, bR, bltS, allD, okLen]) ?_
    refine ⟨_, rfl, q _ _ ⟨a, b, c, d, ds.take m.toNat, ds.drop m.toNat, ha, hb, hc, hd, ?_, ?_, rfl⟩ (by omega)⟩
    · rw [List.take_append_drop]; exact pre
    · simp only [List.length_append, List.length_cons, List.length_take, List.length_drop]; omega
end K52

set_option Elab.async false
set_option linter.all false
set_option maxRecDepth 100000
set_option maxHeartbeats 1000000
namespace K52
open PySem NC
inductive Bent (xs : List PyData) : List PyData → Prop
  | less (i : Nat) (h : i ≤ xs.length) : Bent xs (xs.take i ++ xs.drop (i + 1))
  | more (i : Nat) (h : i ≤ xs.length) (o : PyData) (ho : o ∈ oddA) : Bent xs (xs.take i ++ [o] ++ xs.drop i)
  | twice (i : Nat) (h : i ≤ xs.length) : Bent xs (xs.take i ++ ((xs.drop i).take 1 ++ (xs.drop i).take 1) ++ xs.drop (i + 1))
  | other (i : Nat) (h : i ≤ xs.length) (o : PyData) (ho : o ∈ oddA) : Bent xs (xs.take i ++ [o] ++ xs.drop (i + 1))
theorem Bent.mem {xs ys : List PyData} (h : Bent xs ys) : ∀ y ∈ ys, y ∈ xs ∨ y ∈ oddA := by
  intro y hy
  cases h with
  | less i h =>
    rcases List.mem_append.mp hy with q | q
    · exact .inl (List.mem_of_mem_take q)
    · exact .inl (List.mem_of_mem_drop q)
  | more i h o ho =>
    rcases List.mem_append.mp hy with q | q
    · rcases List.mem_append.mp q with q | q
      · exact .inl (List.mem_of_mem_take q)
      · rw [List.mem_singleton.mp q]; exact .inr ho
    · exact .inl (List.mem_of_mem_drop q)
  | twice i h =>
    rcases List.mem_append.mp hy with q | q
    · rcases List.mem_append.mp q with q | q
      · exact .inl (List.mem_of_mem_take q)
      · rcases List.mem_append.mp q with q | q <;> exact .inl (List.mem_of_mem_drop (List.mem_of_mem_take q))
    · exact .inl (List.mem_of_mem_drop q)
  | other i h o ho =>
    rcases List.mem_append.mp hy with q | q
    · rcases List.mem_append.mp q with q | q
      · exact .inl (List.mem_of_mem_take q)
      · rw [List.mem_singleton.mp q]; exact .inr ho
    · exact .inl (List.mem_of_mem_drop q)
theorem Bent.len {xs ys : List PyData} (h : Bent xs ys) : ys.length ≤ xs.length + 1 := by
  cases h <;> simp only [List.length_append, List.length_take, List.length_drop, List.length_cons, List.length_nil] <;> omega
theorem Bent.four {a b c d x : PyData} {ys : List PyData} (h : Bent [a, b, c, d, x] ys) : ∀ y ∈ ys.take 4, ys.length = 5 → y ∈ [a, b, c, d] ∨ y ∈ oddA := by
  intro y hy hl
  cases h with
  | less i h =>
    match i, h with
    | 0, _ | 1, _ | 2, _ | 3, _ | 4, _ => simp at hl
    | 5, _ => exact .inl (by simpa using hy)
  | more i h o ho =>
    match i, h with
    | 0, _ | 1, _ | 2, _ | 3, _ | 4, _ | 5, _ => simp at hl
  | twice i h =>
    match i, h with
    | 0, _ | 1, _ | 2, _ | 3, _ | 4, _ => simp at hl
    | 5, _ => exact .inl (by simpa using hy)
  | other i h o ho =>
    match i, h with
    | 0, _ | 1, _ | 2, _ | 3, _ =>
      simp at hy
      rcases hy with rfl | rfl | rfl | rfl <;> first | exact .inr ho | exact .inl (by simp)
    | 4, _ => exact .inl (by simpa using hy)
    | 5, _ => simp at hl
theorem cut_to {xs : List PyData} {i : Nat} (h : i ≤ xs.length) : cutS (.d (.tuple xs)) none (some (i : Int)) = some (.tuple (xs.take i)) := by
  rw [cutS, sub_take h]
theorem cut_from {xs : List PyData} {i : Nat} : cutS (.d (.tuple xs)) (some (i : Int)) none = some (.tuple (xs.drop i)) := by
  rw [cutS, cutD, HT.sIx_nat, HT.sIx_none]
  congr 2
  by_cases h : i ≤ xs.length
  · rw [Nat.min_eq_left h, List.take_of_length_le (by rw [List.length_drop]; omega)]
  · rw [Nat.min_eq_right (by omega), List.drop_of_length_le (Nat.le_refl _), List.drop_of_length_le (by omega)]; simp
theorem cut_one {xs : List PyData} {i : Nat} (h : i ≤ xs.length) : cutS (.d (.tuple xs)) (some (i : Int)) (some ((i : Int) + 1)) = some (.tuple ((xs.drop i).take 1)) := by
  have e : ((i : Int) + 1) = ((i + 1 : Nat) : Int) := by omega
  rw [e, cutS, cutD, HT.sIx_nat, HT.sIx_nat, Nat.min_eq_left h]
  congr 2
  by_cases h2 : i + 1 ≤ xs.length
  · rw [Nat.min_eq_left h2]; congr 1; omega
  · rw [Nat.min_eq_right (by omega), List.drop_of_length_le (by omega : xs.length ≤ i)]; simp
theorem cut_next {xs : List PyData} {i : Nat} : cutS (.d (.tuple xs)) (some ((i : Int) + 1)) none = some (.tuple (xs.drop (i + 1))) := by
  have e : ((i : Int) + 1) = ((i + 1 : Nat) : Int) := by omega
  rw [e, cut_from]
theorem add_tt {xs ys : List PyData} (h : xs.length + ys.length ≤ 1000) : addS (.tuple xs) (.tuple ys) = some (.tuple (xs ++ ys)) := by
  rw [addS, okLen, decide_eq_true (by omega)]; rfl
theorem ok1 : okLen (0 + 1) = true := by decide
section
variable {Φ : PC} {xs : List PyData} {o : PyData} {i : Nat} {c : Int}
def xL : E := .bin .add (.sli (.var 1) .non (.som (.var 3))) (.sli (.var 1) (.som (.bin .add (.var 3) (.cst (.int 1)))) .non)
def xM : E := .bin .add (.bin .add (.sli (.var 1) .non (.som (.var 3))) (.tup (es [(.var 2)]))) (.sli (.var 1) (.som (.var 3)) .non)
def xT : E := .bin .add (.bin .add (.sli (.var 1) .non (.som (.var 3))) (.bin .mul (.sli (.var 1) (.som (.var 3)) (.som (.bin .add (.var 3) (.cst (.int 1))))) (.cst (.int 2)))) (.sli (.var 1) (.som (.bin .add (.var 3) (.cst (.int 1)))) .non)
def xO : E := .bin .add (.bin .add (.sli (.var 1) .non (.som (.var 3))) (.tup (es [(.var 2)]))) (.sli (.var 1) (.som (.bin .add (.var 3) (.cst (.int 1)))) .non)
abbrev δ8 (xs : List PyData) (o : PyData) (i : Nat) (c : Int) : NC.Env := [.sh .sta, .sh (.d (.tuple xs)), .sh (.d o), .sh (.d (.int i)), .sh (.d (.int c))]
theorem xL_t (h : i ≤ xs.length) (hl : xs.length ≤ 100) : eE Φ D.sub xL (δ8 xs o i c) = some (.ok (.d (.tuple (xs.take i ++ xs.drop (i + 1))))) := by
  have h1 := cut_to h
  have h2 := cut_next (xs := xs) (i := i)
  have h3 := add_tt (xs := xs.take i) (ys := xs.drop (i + 1)) (by simp only [List.length_take, List.length_drop]; omega)
  simp only [xL, eE, eO, bR, iD, binS, addS, List.getElem?_cons_zero, List.getElem?_cons_succ, Option.map, h1, h2]
  rw [← addS, h3]
theorem xM_t (h : i ≤ xs.length) (hl : xs.length ≤ 100) : eE Φ D.sub xM (δ8 xs o i c) = some (.ok (.d (.tuple (xs.take i ++ [o] ++ xs.drop i)))) := by
  have h1 := cut_to h
  have h2 := cut_from (xs := xs) (i := i)
  have h3 := add_tt (xs := xs.take i) (ys := [o]) (by simp only [List.length_take, List.length_cons, List.length_nil]; omega)
  have h4 := add_tt (xs := xs.take i ++ [o]) (ys := xs.drop i) (by simp only [List.length_append, List.length_take, List.length_drop, List.length_cons, List.length_nil]; omega)
  simp only [xM, es, eE, eEs, eO, bR, iD, binS, List.getElem?_cons_zero, List.getElem?_cons_succ, Option.map, h1, h2, allD, ok1, List.length, if_true, h3, h4]
theorem xO_t (h : i ≤ xs.length) (hl : xs.length ≤ 100) : eE Φ D.sub xO (δ8 xs o i c) = some (.ok (.d (.tuple (xs.take i ++ [o] ++ xs.drop (i + 1))))) := by
  have h1 := cut_to h
  have h2 := cut_next (xs := xs) (i := i)
  have h3 := add_tt (xs := xs.take i) (ys := [o]) (by simp only [List.length_take, List.length_cons, List.length_nil]; omega)
  have h4 := add_tt (xs := xs.take i ++ [o]) (ys := xs.drop (i + 1)) (by simp only [List.length_append, List.length_take, List.length_drop, List.length_cons, List.length_nil]; omega)
  have h5 : addS (.int (i : Int)) (.int 1) = some (.int ((i : Int) + 1)) := rfl
  simp only [xO, es, eE, eEs, eO, bR, iD, binS, List.getElem?_cons_zero, List.getElem?_cons_succ, Option.map, h1, h2, h5, allD, ok1, List.length, if_true, h3, h4]
theorem xT_t (h : i ≤ xs.length) (hl : xs.length ≤ 100) : eE Φ D.sub xT (δ8 xs o i c) = some (.ok (.d (.tuple (xs.take i ++ ((xs.drop i).take 1 ++ (xs.drop i).take 1) ++ xs.drop (i + 1))))) := by
  have h1 := cut_to h
  have h2 := cut_next (xs := xs) (i := i)
  have h3 := add_tt (xs := xs.take i) (ys := (xs.drop i).take 1 ++ (xs.drop i).take 1) (by simp only [List.length_append, List.length_take, List.length_drop]; omega)
  have h4 := add_tt (xs := xs.take i ++ ((xs.drop i).take 1 ++ (xs.drop i).take 1)) (ys := xs.drop (i + 1)) (by simp only [List.length_append, List.length_take, List.length_drop]; omega)
  have h5 : addS (.int (i : Int)) (.int 1) = some (.int ((i : Int) + 1)) := rfl
  have h6 := cut_one h
  have h7 : mulS (.tuple ((xs.drop i).take 1)) (.int 2) = some (.tuple ((xs.drop i).take 1 ++ (xs.drop i).take 1)) := by
    rw [mulS, if_pos]
    · simp [List.replicate, List.flatten]
    · simp only [Bool.and_eq_true, decide_eq_true_eq, List.length_take, List.length_drop]; omega
  simp only [xT, eE, eO, bR, iD, binS, List.getElem?_cons_zero, List.getElem?_cons_succ, Option.map, h1, h2, h5, h6, h7, h3, h4]
end
def s80 : S := .asg (.name 2) (.call 3 (es [(.var 0), (.lst (es [(.cst .none), (.cst (.int 5)), (.cst (.bool true)), (.cst (.str "")), (.cst (.str "point")), (.cst (.str "Point")), (.cst (.str "own")), (.tup (es [(.cst (.str "own"))])), (.lst (es [(.cst (.str "own"))])), .dic, (.cst (.str "drop")), (.cst (.str "list")), (.tup (es []))]))]))
def s81 : S := .par 3 4 (.draw 0 (.bin .add (.blt .len (es [(.var 1)])) (.cst (.int 1)))) (.draw 0 (.cst (.int 5)))
def s8i (n : Int) (e : E) : S := .ifs (.cmp .eq (.var 4) (.cst (.int n))) (.cons (.ret e) .nil) .nil
theorem f8_body : f8.body = .cons s80 (.cons s81 (.cons (s8i 0 xL) (.cons (s8i 1 xM) (.cons (s8i 2 xT) (.cons (.ret xO) .nil))))) := rfl
theorem eq_int (a b : Int) : cmpS .eq (.d (.int a)) (.d (.int b)) = some (decide (a = b)) := by
  simp [cmpS, eqS, SeqAt.shaped, PyData.canLay0, PyData.depth, PyData.eqv]
  rfl
theorem s8i_y {Φ : PC} {xs : List PyData} {o : PyData} {i : Nat} {c n : Int} {e : E} {v : VD} {r : Ss} (hc : c = n) (he : eE Φ D.sub e (δ8 xs o i c) = some (.ok v)) : eSs Φ D.sub (.cons (s8i n e) r) (δ8 xs o i c) = some (.rt v) := by
  refine sq_rt ?_
  have h := eq_int c n
  subst hc
  rw [decide_eq_true rfl] at h
  simp only [s8i, eS, eT, eE, bR, xF, List.getElem?_cons_zero, List.getElem?_cons_succ, h, Option.map, if_true, eSs, he]
theorem s8i_n {Φ : PC} {xs : List PyData} {o : PyData} {i : Nat} {c n : Int} {e : E} {r : Ss} (hc : c ≠ n) : eSs Φ D.sub (.cons (s8i n e) r) (δ8 xs o i c) = eSs Φ D.sub r (δ8 xs o i c) := by
  refine sq_nx ?_
  have h := eq_int c n
  rw [decide_eq_false hc] at h
  simp only [s8i, eS, eT, eE, bR, xF, List.getElem?_cons_zero, List.getElem?_cons_succ, h, Option.map, Bool.false_eq_true, if_false, eSs]
theorem f8_ok {k g : Nat} {xs : List PyData} {Q : Post} {R : Nat → List (Str × PyData) → Nat → Prop} (hl : xs.length ≤ 20) (hg : g + 3 ≤ 1000000) (q : ∀ ys, Bent xs ys → Q (.d (.tuple ys)) (g + 3)) : Ca (k + 2) 8 [.sta, .d (.tuple xs)] g Q R := by
  refine ⟨f8, rfl, rfl, ?_⟩
  rw [f8_body]
  show wSs (Ca (k + 1)) D.sub _ [.sh .sta, .sh (.d (.tuple xs)), .un, .un, .un] g _ _
  unfold wSs s80 wS wE es wEs wE
  refine ⟨_, rfl, ?_⟩
  unfold es wEs
  refine detE (v := .d (.list oddA)) (by rfl) ?_
  unfold es wEs
  refine f3_ok (by simp [oddA]) (by simp [oddA]) (by omega) fun o ho => ?_
  refine ⟨_, rfl, ?_⟩
  show wSs (Ca (k + 1)) D.sub _ [.sh .sta, .sh (.d (.tuple xs)), .sh (.d o), .un, .un] (g + 1) _ _
  unfold wSs s81 wS wE
  refine ⟨rfl, ?_⟩
  refine detE (v := .d (.int ((xs.length : Nat) + 1))) (by simp [eE, eEs, es, bR, bltS, binS, addS]) ?_
  refine ⟨_, rfl, by omega, by omega, by omega, fun n n0 n1 => ?_⟩
  unfold wE
  refine ⟨rfl, ?_⟩
  unfold wE
  refine ⟨5, rfl, by decide, by decide, by omega, fun c c0 c1 => ?_⟩
  obtain ⟨i, rfl⟩ := Int.eq_ofNat_of_zero_le n0
  have hi : i ≤ xs.length := by omega
  show wSs (Ca (k + 1)) D.sub _ (δ8 xs o i c) (g + 1 + 1 + 1) _ _
  by_cases h0 : c = 0
  · exact detRt (s8i_y h0 (xL_t hi (by omega))) (q _ (.less i hi))
  by_cases h1 : c = 1
  · exact detRt ((s8i_n h0).trans (s8i_y h1 (xM_t hi (by omega)))) (q _ (.more i hi o ho))
  by_cases h2 : c = 2
  · exact detRt ((s8i_n h0).trans ((s8i_n h1).trans (s8i_y h2 (xT_t hi (by omega))))) (q _ (.twice i hi))
  · refine detRt ((s8i_n h0).trans ((s8i_n h1).trans ((s8i_n h2).trans (sq_rt ?_)))) (q _ (.other i hi o ho))
    rw [eS, xO_t hi (by omega)]; rfl
end K52

set_option Elab.async false
set_option linter.all false
set_option maxRecDepth 100000
set_option maxHeartbeats 1000000
namespace K52
open PySem NC
theorem kd_at : ∀ k ∈ [0, 1, 2, 3], ∀ x ∈ kD k, x ∈ atoms := by
  intro k hk x hx
  simp only [List.mem_cons, List.not_mem_nil, or_false] at hk
  rcases hk with rfl | rfl | rfl | rfl <;> simp [kD, kindsS, txts] at hx
  · rcases hx with rfl | rfl | rfl <;> simp [atoms, oddA, txts, wordsS]
  · rcases hx with rfl | rfl <;> simp [atoms, oddA, txts, wordsS]
  · rcases hx with rfl | rfl | rfl <;> simp [atoms, oddA, txts, wordsS]
  · rcases hx with rfl | rfl | rfl <;> simp [atoms, oddA, txts, wordsS]
theorem kd_isW : ∀ k ∈ [0, 1, 2, 3], ∀ x ∈ kD k, isW x (kD k) = true := by decide +kernel
theorem odd_at {x : PyData} (h : x ∈ oddA) : x ∈ atoms := List.mem_append_left _ (List.mem_append_left _ h)
/-- what a manner is made of -/
structure Mk (a b c d : PyData) (acts : List PyData) : Prop where
  a : a ∈ kD 0
  b : b ∈ kD 1
  c : c ∈ kD 2
  d : d ∈ kD 3
  w : ∀ z ∈ acts, z ∈ wsD
  len : acts.length ≤ 8
  ok : actsF (.tuple acts) = .none
theorem Mn.mk {m : PyData} (h : Mn m) : ∃ a b c d acts, Mk a b c d acts ∧ m = .tuple [a, b, c, d, .tuple acts] := by
  obtain ⟨a, b, c, d, p, r, ha, hb, hc, hd, pre, hl, rfl⟩ := h
  refine ⟨a, b, c, d, _, ⟨ha, hb, hc, hd, fun z hz => ?_, hl, acts_ok pre hl⟩, rfl⟩
  rcases List.mem_append.mp hz with q | q
  · exact pre.w z (List.mem_append_left _ q)
  · cases q with
    | head => exact pt_ws
    | tail _ q => exact pre.w z (List.mem_append_right _ q)
section
variable {a b c d : PyData} {acts : List PyData} (M : Mk a b c d acts)
include M
theorem Mk.at4 : ∀ y ∈ [a, b, c, d], y ∈ atoms := fun y hy => by
  simp only [List.mem_cons, List.not_mem_nil, or_false] at hy
  rcases hy with rfl | rfl | rfl | rfl
  · exact kd_at 0 (by simp) _ M.a
  · exact kd_at 1 (by simp) _ M.b
  · exact kd_at 2 (by simp) _ M.c
  · exact kd_at 3 (by simp) _ M.d
theorem Mk.pl : plF a b c d (.tuple acts) = .none := by
  rw [plF, if_pos (kd_isW 0 (by simp) _ M.a), if_pos (kd_isW 1 (by simp) _ M.b), if_pos (kd_isW 2 (by simp) _ M.c), if_pos (kd_isW 3 (by simp) _ M.d), M.ok]
theorem Mk.th5 {x : PyData} (hx : El x) : Th (.tuple [a, b, c, d, x]) := th_tup (fun y hy => by
  simp only [List.mem_cons, List.not_mem_nil, or_false] at hy
  rcases hy with h | h | h | h | rfl
  · exact .inl (M.at4 y (by simp [h]))
  · exact .inl (M.at4 y (by simp [h]))
  · exact .inl (M.at4 y (by simp [h]))
  · exact .inl (M.at4 y (by simp [h]))
  · exact hx) (by simp) (fun y hy _ => M.at4 y (by simpa using hy))
theorem Mk.bent {x : PyData} {ys : List PyData} (hx : El x) (h : Bent [a, b, c, d, x] ys) : Th (.tuple ys) := by
  refine th_tup (fun y hy => ?_) (Nat.le_trans h.len (by simp)) (fun y hy hl => ?_)
  · rcases h.mem y hy with q | q
    · simp only [List.mem_cons, List.not_mem_nil, or_false] at q
      rcases q with q | q | q | q | rfl
      · exact .inl (M.at4 y (by simp [q]))
      · exact .inl (M.at4 y (by simp [q]))
      · exact .inl (M.at4 y (by simp [q]))
      · exact .inl (M.at4 y (by simp [q]))
      · exact hx
    · exact .inl (odd_at q)
  · rcases h.four y hy hl with q | q
    · exact M.at4 y q
    · exact odd_at q
theorem Mk.elA : El (.tuple acts) := .inr ⟨acts, fun y hy => ws_at y (M.w y hy), by have := M.len; omega, .inl rfl⟩
theorem Mk.elL : El (.list acts) := .inr ⟨acts, fun y hy => ws_at y (M.w y hy), by have := M.len; omega, .inr rfl⟩
theorem Mk.elB {ys : List PyData} (h : Bent acts ys) : El (.tuple ys) := .inr ⟨ys, fun y hy => by
  rcases h.mem y hy with q | q
  · exact ws_at y (M.w y q)
  · exact odd_at q, by have := M.len; have := h.len; omega, .inl rfl⟩
theorem Mk.thM : Th (.list [a, b, c, d, .tuple acts]) := th_list (fun y hy => by
  simp only [List.mem_cons, List.not_mem_nil, or_false] at hy
  rcases hy with h | h | h | h | rfl
  · exact .inl (M.at4 y (by simp [h]))
  · exact .inl (M.at4 y (by simp [h]))
  · exact .inl (M.at4 y (by simp [h]))
  · exact .inl (M.at4 y (by simp [h]))
  · exact M.elA) (by simp)
end
/-! ### the law's body -/
def L0 : S := .asg (.name 4) (.call 7 (es [(.var 1)]))
def L1 : S := .ifs (.or2 (.cmp .ne (.call 5 (es [(.var 4)])) (.lst (es []))) (.one (.not1 (.val (.call 6 (es [(.var 4)])))))) (ss [.ret (.cst (.bool false))]) (ss [])
def I0 : S := .asg (.name 8) (.bin .add (.sli (.var 4) .non (.som (.cst (.int 4)))) (.tup (es [(.call 8 (es [(.var 1), (.sub (.var 4) (.cst (.int 4)))]))])))
def I1 : S := .own 9 (.lst (es [(.var 8), (.call 8 (es [(.var 1), (.var 4)])), (.call 8 (es [(.var 1), (.var 8)])), (.blt .list (es [(.var 4)]))]))
def I2 : S := .app 9 (.bin .add (.sli (.var 4) .non (.som (.cst (.int 4)))) (.tup (es [(.blt .list (es [(.sub (.var 4) (.cst (.int 4)))]))])))
def cR : E := .comp (.var 3) (.name 3) (.seq (.peek 9)) (.som (.not1 (.val (.call 6 (es [(.var 3)])))))
def I3 : S := .ifs (.cmp .ne cR (.lst (es []))) (ss [.ret (.cst (.bool false))]) (ss [])
def Ib : Ss := .cons I0 (.cons I1 (.cons I2 (.cons I3 .nil)))
def Lt : S := .forS (.name 5) (.rng (.cst (.int 4))) Ib
def Lb : Ss := .cons L0 (.cons L1 (.cons Lt .nil))
def M0 : S := .forS (.name 2) (.rng (.bin .add (.cst (.int 5)) (.blt .min2 (es [(.cst (.int 10)), (.blt .len (es [(.var 0)]))])))) Lb
def hE : E := .tup (es [(.cst .none), (.cst (.int 5)), (.tup (es [])), (.cst (.str "any")), .dic, (.bin .mul (.tup (es [(.cst .none)])) (.cst (.int 5))), (.tup (es [(.cst (.str "any")), (.cst (.str "on")), (.cst (.str "list")), (.cst (.str "never")), (.bin .mul (.tup (es [(.cst (.str "point"))])) (.cst (.int 9)))]))])
def Hb : Ss := ss [.ifs (.not1 (.val (.call 6 (es [(.var 3)])))) (ss [.ret (.cst (.bool false))]) (ss [])]
def M1 : S := .forS (.name 3) (.seq hE) Hb
def M2 : S := .asg (.pair 6 7) (.call 4 (es []))
def rE : E := .cmp .eq (.lst (es [(.glo "DOORS" (.tuple [(.str "any"), (.str "own"), (.str "now")])), (.glo "LEADS" (.tuple [(.str "on"), (.str "off")])), (.glo "HOWS" (.tuple [(.str "list"), (.str "whole"), (.str "next")])), (.glo "AGAINS" (.tuple [(.str "never"), (.str "own"), (.str "edition")])), (.glo "WORDS" (.tuple [(.str "seal"), (.str "hold"), (.str "free"), (.str "copy"), (.str "catch"), (.str "both"), (.str "tell"), (.str "point"), (.str "drain"), (.str "drop")]))])) (.comp (.blt .tuple (es [(.var 9)])) (.name 9) (.seq (.bin .add (.var 6) (.lst (es [(.var 7)])))) .non)
theorem law_body : lawS = .cons M0 (.cons M1 (.cons M2 (.cons (.ret rE) .nil))) := rfl
abbrev Δ (n : Nat) (s2 s3 s4 s5 s6 s7 s8 s9 : Sl) : NC.Env := [.sh (.scr n), .sh .sta, s2, s3, s4, s5, s6, s7, s8, s9]
theorem L1_t {k n : Nat} {a b c d : PyData} {acts : List PyData} {s2 s3 s5 s6 s7 s8 s9 : Sl} (M : Mk a b c d acts) : eS (Ψ (k + 4)) D.sub L1 (Δ n s2 s3 (.sh (.d (.tuple [a, b, c, d, .tuple acts]))) s5 s6 s7 s8 s9) = some (.nx (Δ n s2 s3 (.sh (.d (.tuple [a, b, c, d, .tuple acts]))) s5 s6 s7 s8 s9)) := by
  have h5 : Ψ (k + 4) 5 [.d (.tuple [a, b, c, d, .tuple acts])] = some (.ok (.d (.list []))) := by
    rw [e5_t (k := k + 2) (kd_at 0 (by simp) _ M.a) (kd_at 1 (by simp) _ M.b) (kd_at 2 (by simp) _ M.c) (kd_at 3 (by simp) _ M.d) M.elA.ac, M.pl]; rfl
  have h6 := right (k := k) (M.th5 M.elA)
  have h0 := ne_nil
  simp [L1, ss, es, eS, eSs, eT, eE, eEs, bR, xF, bD, h5, h6, h0, allD, okLen]
theorem comp_none {f : PyData → Option (Option PyData)} : ∀ (xs : List PyData), (∀ x ∈ xs, f x = some none) → compE f xs [] = some []
  | [], _ => rfl
  | x :: xs, h => by rw [compE, h x (List.mem_cons_self ..)]; exact comp_none xs fun y hy => h y (List.mem_cons_of_mem _ hy)
theorem I3_t {k n : Nat} {xs : List PyData} {s2 s3 s4 s5 s6 s7 s8 : Sl} (h : ∀ x ∈ xs, Th x) : eS (Ψ (k + 4)) D.sub I3 (Δ n s2 s3 s4 s5 s6 s7 s8 (.ow xs)) = some (.nx (Δ n s2 s3 s4 s5 s6 s7 s8 (.ow xs))) := by
  have hc : eE (Ψ (k + 4)) D.sub cR (Δ n s2 s3 s4 s5 s6 s7 s8 (.ow xs)) = some (.ok (.d (.list []))) := by
    simp only [cR, eE, eIt, bR, List.getElem?_cons_zero, List.getElem?_cons_succ, Option.map, itS]
    rw [comp_none xs (fun x hx => ?_)]
    have h6 := right (k := k) (h x hx)
    simp [asgT, wipeD, Tg.slots, eTO, eT, eE, eEs, es, bR, bD, h6, pureR]
  have h0 := ne_nil
  simp only [I3, eS, eT, bR, hc]
  simp [ss, es, eS, eSs, eE, eEs, bR, xF, h0, allD, okLen]
theorem add5 {a b c d x : PyData} : addS (.tuple [a, b, c, d]) (.tuple [x]) = some (.tuple [a, b, c, d, x]) := rfl
theorem cut4 {a b c d x : PyData} : cutS (.d (.tuple [a, b, c, d, x])) none (some 4) = some (.tuple [a, b, c, d]) := rfl
theorem at4 {a b c d x : PyData} : atS (.d (.tuple [a, b, c, d, x])) (.d (.int 4)) = some x := rfl
theorem in_ok {k n g : Nat} {a b c d : PyData} {acts : List PyData} {s2 s3 s5 s6 s7 s8 s9 : Sl} {E : SEnds} {R : XPost} (M : Mk a b c d acts) (hg : g + 9 ≤ 1000000) (q : ∀ t8 t9 : Sl, E.nx (Δ n s2 s3 (.sh (.d (.tuple [a, b, c, d, .tuple acts]))) s5 s6 s7 t8 t9) (g + 9)) : wSs (Ca (k + 4)) D.sub Ib (Δ n s2 s3 (.sh (.d (.tuple [a, b, c, d, .tuple acts]))) s5 s6 s7 s8 s9) g E R := by
  unfold Ib wSs I0
  simp only [es]
  unfold wS wE
  refine detE (v := .d (.tuple [a, b, c, d])) (by simp [eE, eO, bR, iD, cut4]) ?_
  unfold wE wEs wE wEs wE
  refine ⟨_, rfl, ?_⟩
  unfold wEs
  refine detE (v := .d (.tuple acts)) (by simp [eE, bR, at4]) ?_
  unfold wEs
  refine f8_ok (k := k + 2) (by have := M.len; omega) (by omega) fun ys hb => ?_
  unfold wEs
  refine ⟨_, rfl, rfl, _, add5, _, rfl, ?_⟩
  show wSs (Ca (k + 4)) D.sub _ (Δ n s2 s3 (.sh (.d (.tuple [a, b, c, d, .tuple acts]))) s5 s6 s7 (.sh (.d (.tuple [a, b, c, d, .tuple ys]))) s9) (g + 3) E R
  unfold wSs I1
  simp only [es]
  unfold wS wE wEs wE
  refine ⟨_, rfl, ?_⟩
  unfold wEs wE wEs wE
  refine ⟨_, rfl, ?_⟩
  unfold wEs wE
  refine ⟨_, rfl, ?_⟩
  unfold wEs
  refine f8_ok (k := k + 2) (by simp) (by omega) fun y1 hb1 => ?_
  unfold wEs wE wEs wE
  refine ⟨_, rfl, ?_⟩
  unfold wEs wE
  refine ⟨_, rfl, ?_⟩
  unfold wEs
  refine f8_ok (k := k + 2) (by simp) (by omega) fun y2 hb2 => ?_
  unfold wEs
  refine detE (v := .d (.list [a, b, c, d, .tuple acts])) (by simp [eE, eEs, es, bR, bltS]) ?_
  unfold wEs
  refine ⟨_, rfl, rfl, _, rfl, ?_⟩
  show wSs (Ca (k + 4)) D.sub _ (Δ n s2 s3 (.sh (.d (.tuple [a, b, c, d, .tuple acts]))) s5 s6 s7 (.sh (.d (.tuple [a, b, c, d, .tuple ys]))) (.ow [.tuple [a, b, c, d, .tuple ys], .tuple y1, .tuple y2, .list [a, b, c, d, .tuple acts]])) (g + 9) E R
  refine detS (δ' := Δ n s2 s3 (.sh (.d (.tuple [a, b, c, d, .tuple acts]))) s5 s6 s7 (.sh (.d (.tuple [a, b, c, d, .tuple ys]))) (.ow [.tuple [a, b, c, d, .tuple ys], .tuple y1, .tuple y2, .list [a, b, c, d, .tuple acts], .tuple [a, b, c, d, .list acts]])) (by rfl) ?_
  refine detS (I3_t fun x hx => ?_) (by unfold wSs; exact q _ _)
  simp only [List.mem_cons, List.not_mem_nil, or_false] at hx
  rcases hx with rfl | rfl | rfl | rfl | rfl
  · exact M.th5 (M.elB hb)
  · exact M.bent M.elA hb1
  · exact M.bent (M.elB hb) hb2
  · exact M.thM
  · exact M.th5 M.elL
theorem mono10 : CMono (Ca 10) := calls_mono D.fns D.sub 10
theorem turn_ok {n g : Nat} {s2 s3 s4 s5 s6 s7 s8 s9 : Sl} {E : SEnds} {R : XPost} (hg : g + 60 ≤ 1000000) (q : ∀ (g' : Nat) (t3 t4 t5 t8 t9 : Sl), g' ≤ g + 60 → E.nx (Δ n s2 t3 t4 t5 s6 s7 t8 t9) g') : wSs (Ca 10) D.sub Lb (Δ n s2 s3 s4 s5 s6 s7 s8 s9) g E R := by
  unfold Lb wSs L0 wS wE es wEs wE
  refine ⟨_, rfl, ?_⟩
  unfold es wEs
  refine f7_ok (k := 8) (by omega) fun m g1 hm hg1 => ?_
  obtain ⟨a, b, c, d, acts, M, rfl⟩ := hm.mk
  refine ⟨_, rfl, ?_⟩
  show wSs (Ca 10) D.sub _ (Δ n s2 s3 (.sh (.d (.tuple [a, b, c, d, .tuple acts]))) s5 s6 s7 s8 s9) g1 E R
  refine detS (L1_t (k := 6) M) ?_
  unfold wSs Lt wS wIt wE
  refine ⟨_, rng_ok (by decide) (by decide), ?_⟩
  refine forW_rule (fun r δ g2 => g2 + 9 * r.length ≤ g1 + 36 ∧ ∃ t5 t8 t9, δ = Δ n s2 s3 (.sh (.d (.tuple [a, b, c, d, .tuple acts]))) t5 s6 s7 t8 t9) (fun x δ g2 D1 D2 hd ⟨δ2, e, w⟩ => ⟨δ2, e, wSs_mono mono10 _ _ _ _ _ _ _ hd (fun _ _ _ _ z => z) w⟩) ?_ ?_ ⟨by simp, s5, s8, s9, rfl⟩
  · rintro x r δ g2 ⟨hb, t5, t8, t9, rfl⟩
    simp only [List.length_cons] at hb
    refine ⟨_, rfl, ?_⟩
    exact in_ok (k := 6) M (by omega) fun u8 u9 => ⟨by omega, _, u8, u9, rfl⟩
  · rintro δ g2 ⟨hb, t5, t8, t9, rfl⟩
    simp only [List.length_nil] at hb
    show wSs (Ca 10) D.sub .nil _ _ E R
    unfold wSs
    exact q g2 _ _ _ _ _ (by omega)
def handD : List PyData := [.none, .int 5, .tuple [], .str "any", .dict [], .tuple [.none, .none, .none, .none, .none], .tuple [.str "any", .str "on", .str "list", .str "never", .tuple [ptD, ptD, ptD, ptD, ptD, ptD, ptD, ptD, ptD]]]
theorem pt_at : ptD ∈ atoms := ws_at _ pt_ws
theorem hand_th : ∀ x ∈ handD, Th x := by
  intro x hx
  have nA : (PyData.none) ∈ atoms := by simp [atoms, oddA]
  have a0 : (PyData.str "any") ∈ atoms := kd_at 0 (by simp) _ (by simp [kD, kindsS, txts])
  have a1 : (PyData.str "on") ∈ atoms := kd_at 1 (by simp) _ (by simp [kD, kindsS, txts])
  have a2 : (PyData.str "list") ∈ atoms := kd_at 2 (by simp) _ (by simp [kD, kindsS, txts])
  have a3 : (PyData.str "never") ∈ atoms := kd_at 3 (by simp) _ (by simp [kD, kindsS, txts])
  simp only [handD, List.mem_cons, List.not_mem_nil, or_false] at hx
  rcases hx with rfl | rfl | rfl | rfl | rfl | rfl | rfl
  · exact th_atom nA
  · exact th_atom (by simp [atoms, oddA])
  · exact th_atom (by simp [atoms, oddA])
  · exact th_atom a0
  · exact th_atom (by simp [atoms, oddA])
  · exact th_tup (fun y hy => by simp at hy; subst hy; exact .inl nA) (by simp) (fun y hy _ => by simp at hy; subst hy; exact nA)
  · refine th_tup (fun y hy => ?_) (by simp) (fun y hy _ => ?_)
    · simp only [List.mem_cons, List.not_mem_nil, or_false] at hy
      rcases hy with rfl | rfl | rfl | rfl | rfl
      · exact .inl a0
      · exact .inl a1
      · exact .inl a2
      · exact .inl a3
      · exact .inr ⟨_, fun z hz => by simp at hz; subst hz; exact pt_at, by simp, .inl rfl⟩
    · simp only [List.take, List.mem_cons, List.not_mem_nil, or_false] at hy
      rcases hy with rfl | rfl | rfl | rfl
      · exact a0
      · exact a1
      · exact a2
      · exact a3
def BH (Φ : PC) : PyData → NC.Env → Option Fl := fun x δ1 => match asgT (.name 3) (.d x) δ1 with
  | some δ2 => eSs Φ D.sub Hb δ2
  | none => none
theorem loopH {k n : Nat} {s2 s4 s5 s6 s7 s8 s9 : Sl} : ∀ (xs : List PyData) (s3 : Sl), (∀ x ∈ xs, Th x) → ∃ t3, forE (BH (Ψ (k + 4))) xs (Δ n s2 s3 s4 s5 s6 s7 s8 s9) = some (.nx (Δ n s2 t3 s4 s5 s6 s7 s8 s9))
  | [], s3, _ => ⟨s3, rfl⟩
  | x :: xs, s3, h => by
    obtain ⟨t3, e⟩ := loopH (k := k) (n := n) (s2 := s2) (s4 := s4) (s5 := s5) (s6 := s6) (s7 := s7) (s8 := s8) (s9 := s9) xs (.sh (.d x)) fun y hy => h y (List.mem_cons_of_mem _ hy)
    refine ⟨t3, ?_⟩
    have h6 := right (k := k) (h x (List.mem_cons_self ..))
    have st : BH (Ψ (k + 4)) x (Δ n s2 s3 s4 s5 s6 s7 s8 s9) = some (.nx (Δ n s2 (.sh (.d x)) s4 s5 s6 s7 s8 s9)) := by
      show eSs _ _ Hb (Δ n s2 (.sh (.d x)) s4 s5 s6 s7 s8 s9) = _
      simp [Hb, ss, es, eS, eSs, eT, eE, eEs, bR, xF, bD, h6]
    rw [forE, st]; exact e
theorem M0_v {Φ : PC} {n : Nat} {s2 s3 s4 s5 s6 s7 s8 s9 : Sl} : ∃ k : Int, 0 ≤ k ∧ k ≤ 15 ∧ eE Φ D.sub (.bin .add (.cst (.int 5)) (.blt .min2 (es [(.cst (.int 10)), (.blt .len (es [(.var 0)]))]))) (Δ n s2 s3 s4 s5 s6 s7 s8 s9) = some (.ok (.d (.int k))) := by
  refine ⟨5 + (if (n : Int) < 10 then (n : Int) else 10), by split <;> omega, by split <;> omega, ?_⟩
  simp [eE, eEs, es, bR, bltS, binS, addS]
theorem law_ok : LawOk (calls D.fns D.sub 10) D.sub D.body D.lawN.length 63 := by
  intro n hn
  show wSs (Ca 10) D.sub lawS (Δ n .un .un .un .un .un .un .un .un) 0 _ _
  rw [law_body]
  unfold wSs M0 wS wIt
  obtain ⟨k, k0, k1, ek⟩ := M0_v (Φ := Ψ 10) (n := n) (s2 := .un) (s3 := .un) (s4 := .un) (s5 := .un) (s6 := .un) (s7 := .un) (s8 := .un) (s9 := .un)
  refine detE ek ⟨_, rng_ok k0 (by omega), ?_⟩
  refine forW_rule (fun r δ g2 => g2 + 60 * r.length ≤ 900 ∧ ∃ t2 t3 t4 t5 t8 t9, δ = Δ n t2 t3 t4 t5 .un .un t8 t9) (fun x δ g2 D1 D2 hd ⟨δ2, e, w⟩ => ⟨δ2, e, wSs_mono mono10 _ _ _ _ _ _ _ hd (fun _ _ _ _ z => z) w⟩) ?_ ?_ ⟨by simp; omega, .un, .un, .un, .un, .un, .un, rfl⟩
  · rintro x r δ g2 ⟨hb, t2, t3, t4, t5, t8, t9, rfl⟩
    simp only [List.length_cons] at hb
    refine ⟨_, rfl, ?_⟩
    exact turn_ok (by omega) fun g' u3 u4 u5 u8 u9 hg => ⟨by omega, _, u3, u4, u5, u8, u9, rfl⟩
  · rintro δ g2 ⟨hb, t2, t3, t4, t5, t8, t9, rfl⟩
    show wSs (Ca 10) D.sub _ (Δ n t2 t3 t4 t5 .un .un t8 t9) g2 _ _
    obtain ⟨u3, eh⟩ := loopH (k := 6) (n := n) (s2 := t2) (s4 := t4) (s5 := t5) (s6 := .un) (s7 := .un) (s8 := t8) (s9 := t9) handD t3 hand_th
    refine detS (δ' := Δ n t2 u3 t4 t5 .un .un t8 t9) ?_ ?_
    · rw [M1, eS]
      have : eIt (Ψ 10) D.sub (.seq hE) (Δ n t2 t3 t4 t5 .un .un t8 t9) = some (.ok handD) := by rfl
      rw [this]
      exact eh
    · refine detS (δ' := Δ n t2 u3 t4 t5 (.sh (.d foundD)) (.sh (.d actsD)) t8 t9) ?_ ?_
      · have h4 := e4 (k := 9)
        simp [M2, es, eS, eE, eEs, bR, xF, h4, asgT]
      · refine detRt (v := .d (.bool true)) (by kernel_rfl) rfl
end K52

set_option Elab.async false
set_option linter.all false
set_option maxRecDepth 100000
set_option maxHeartbeats 0
namespace K52
open PySem NC
def nm0 : List PySem.Str := ["CutError", "BadManner", "ANY", "OWN", "NOW", "ON", "OFF", "LIST", "WHOLE", "NEXT", "NEVER", "EDITION", "SEAL", "HOLD", "FREE", "COPY", "CATCH", "BOTH", "TELL", "POINT", "DRAIN", "DROP", "DOORS", "LEADS", "HOWS", "AGAINS", "WORDS", "KINDS", "MOST_ACTS", "is_word"]
def nm1 : List PySem.Str := ["acts_fault", "need_manner", "_law_mixed", "_law_begin", "_law_draw", "_law_of", "_law_words", "_law_wrong", "_law_right", "_law_manner", "_law_bent"]
def names : List PySem.Str := nm0 ++ nm1
abbrev R : PySem.W.OpenRow := PySem.W.OpenLaw.row PySem.Challenge.rw_namedcuts_k52_manners_checked
abbrev qv : PySem.Program := PySem.W.view R.prog [44]
abbrev hk : PySem.W.Hook := D.hook 6
def ob (s : PySem.W.SharedT) : Bool × He.AlD := D.obs 6 (HandSHeadRun.getT s)
theorem ob_eq (s : PySem.W.SharedT) : ob s = hk.obs s.abs := D.obs_eq (HandSHeadRun.getT_eq s)
theorem run (w : World) : HandSHeadRun.RunEq R qv hk ob 4000 names w := by
  intro os
  kernel_rfl

end K52

set_option Elab.async false
set_option linter.all false
set_option maxRecDepth 100000
set_option maxHeartbeats 0
namespace K52
open PySem NC
end K52
open PySem PySem.W PySem.Calls PyProof.Rows
theorem PySem.Challenge.cw_namedcuts_k52_manners_checked_holds : PySem.Challenge.rw_namedcuts_k52_manners_checked.Holds := by
  w_on; o_law
  refine HandSHeadRun.head_any (r := OpenLaw.row PySem.Challenge.rw_namedcuts_k52_manners_checked) (q := K52.qv) (H := K52.hk) (ob := K52.ob) (M := 4000) (loose := K52.names) (d := HandSHeadRun.topDef (OpenLaw.row PySem.Challenge.rw_namedcuts_k52_manners_checked).prog K52.D.lw) (kwd := []) K52.ob_eq
    (by kernel_rfl) (fun s => by kernel_rfl) K52.run (by kernel_rfl) (by kernel_rfl) (by kernel_rfl) (by rfl) (by first | assumption | decide +kernel) (by decide +kernel) ⟨rfl, rfl, rfl, rfl, rfl, by decide +kernel⟩ ?hw ?hc
  case hw => w_witness2
  case hc =>
    refine NC.nc_walk (l := PySem.Challenge.rw_namedcuts_k52_manners_checked) (n := 63) (k := 14) (x := "_law_script") rfl (by decide) (by kernel_rfl) ⟨rfl, by decide, by decide⟩ ?F
    intro w mg fa h Y G hmg
    obtain ⟨hs, K, kin, my, c⟩ := Y
    obtain ⟨fd, e, bd, FF⟩ := NC.LD.nc_law (P := PySem.Challenge.rw_namedcuts_k52_manners_checked.prog) (w := w) (most := 63) 10 K52.sta kin G my c (by decide) K52.law_ok
    have en : (HandSHeadRun.topDef (OpenLaw.row PySem.Challenge.rw_namedcuts_k52_manners_checked).prog K52.D.lw).name = ("law" : PySem.Str) := by kernel_rfl
    rw [en, e] at hmg
    cases hmg
    exact ⟨K, fd, kin, hs, bd, FF⟩
