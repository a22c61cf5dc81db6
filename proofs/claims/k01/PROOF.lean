import PyProof.Rows.All
import Wide.All
import OpenK.AllK
import Wide.FinOn
import HandS.ForMost
import PySem.Challenge.RW_codespans_k01_spans_judged
import HandS.ForSpec
import HandS.Comp
import HandS.TryMany
import HandS.ExcField
import HandS.Property
import HandS.ExcInit
import HandS.Wide
import HandS.More
import HandS.IsInst
import HandS.Text
import HandS.TryOnly
import HandS.EndBits
import HandS.TupLe
import HandS.Flow
import HandS.Dict

/-! MirSem -/
section
/-! MirSem: a small language of meanings (values as trees, a store for what changes). No model in sight. -/
set_option linter.all false
namespace Mir

/-- a value as a tree; ref: an object of the store -/
inductive D where
  | non | bl (b : Bool) | int (i : Int) | str (s : List Nat) | byt (b : List Nat)
  | lst (xs : List D) | frz (xs : List D) | tup (xs : List D)
  | ins (c : String) (fs : List (String × D))
  | exn (c : String) (fs : List (String × D))
  | gl (x : String) | ty (x : String)
  | edi
  | ref (i : Nat)
  deriving Inhabited

/-- the codes of a text -/
def cps (s : String) : List Nat := s.toList.map Char.toNat

mutual
/-- all refs in it are below n -/
def D.lim (n : Nat) : D → Bool
  | .lst xs => limL n xs
  | .frz xs => limL n xs
  | .tup xs => limL n xs
  | .ins _ fs => limF n fs
  | .exn _ fs => limF n fs
  | .ref i => decide (i < n)
  | _ => true
def limL (n : Nat) : List D → Bool
  | [] => true
  | d :: ds => d.lim n && limL n ds
def limF (n : Nat) : List (String × D) → Bool
  | [] => true
  | p :: ds => p.2.lim n && limF n ds
end

def b2n (b : Bool) : Int := if b then 1 else 0

mutual
/-- == of data -/
def D.eqv : D → D → Bool
  | .non, .non => true
  | .bl a, .bl b => a == b
  | .bl a, .int j => b2n a == j
  | .int i, .bl b => i == b2n b
  | .int i, .int j => i == j
  | .str x, .str y => x == y
  | .byt x, .byt y => x == y
  | .lst xs, .lst ys => eqvL xs ys
  | .tup xs, .tup ys => eqvL xs ys
  | _, _ => false
def eqvL : List D → List D → Bool
  | [], [] => true
  | x :: xs, y :: ys => x.eqv y && eqvL xs ys
  | _, _ => false
end
mutual
/-- none, bools, ints, texts, lists and tuples of these, at most n deep -/
def D.dataN : Nat → D → Bool
  | _, .non => true
  | _, .bl _ => true
  | _, .int _ => true
  | _, .str s => s.all fun c => decide (c < 1114112)
  | n, .lst xs => decide (0 < n) && dataL (n - 1) xs
  | n, .tup xs => decide (0 < n) && dataL (n - 1) xs
  | _, _ => false
def dataL : Nat → List D → Bool
  | _, [] => true
  | n, d :: ds => D.dataN n d && dataL n ds
end

/-- what stands in the store -/
inductive Ob where
  | dead
  | lst (own : Bool) (xs : List D)
  | ins (c : String) (fs : List (String × D))
  deriving Inhabited
/-- refs within are below n -/
def Ob.lim (n : Nat) : Ob → Bool
  | .dead => true
  | .lst _ xs => limL n xs
  | .ins _ fs => limF n fs
abbrev Sto := List Ob
abbrev Env := List (Option D)

inductive R (α : Type) where
  | ok (a : α) (e : Env) (S : Sto)
  | exc (c : String) (fs : List (String × D)) (e : Env) (S : Sto)
  | stuck
def R.bind {α β : Type} (r : R α) (k : α → Env → Sto → R β) : R β := match r with
  | .ok a e S => k a e S
  | .exc c fs e S => .exc c fs e S
  | .stuck => .stuck
@[simp] theorem R.bind_ok {α β : Type} (a : α) (e : Env) (S : Sto) (k : α → Env → Sto → R β) : (R.ok a e S).bind k = k a e S := rfl
@[simp] theorem R.bind_exc {α β : Type} (c : String) (fs : List (String × D)) (e : Env) (S : Sto) (k : α → Env → Sto → R β) : (R.exc c fs e S).bind k = .exc c fs e S := rfl
@[simp] theorem R.bind_stuck {α β : Type} (k : α → Env → Sto → R β) : (R.stuck : R α).bind k = .stuck := rfl
def R.opt {α : Type} (o : Option α) (e : Env) (S : Sto) : R α := match o with
  | some a => .ok a e S
  | none => .stuck
@[simp] theorem R.opt_some {α : Type} (a : α) (e : Env) (S : Sto) : R.opt (some a) e S = .ok a e S := rfl
@[simp] theorem R.opt_none {α : Type} (e : Env) (S : Sto) : (R.opt none e S : R α) = .stuck := rfl

abbrev SE := Nat → Env → Sto → R D
abbrev SA := Nat → Env → Sto → R (List D)
abbrev ST := Nat → Env → Sto → R Bool
inductive Fl where
  | nx | ret (d : D) | bk | ct
abbrev SS := Nat → Env → Sto → R Fl
abbrev SF := List D → Sto → R D
abbrev SG := Nat → D → Env → Sto → R Unit

def line : Nat := 16777216

/-! ### the store read -/
def derefL (S : Sto) : D → Option (List D)
  | .lst xs => some xs
  | .frz xs => some xs
  | .ref i => match S[i]? with
    | some (.lst _ xs) => some xs
    | _ => none
  | _ => none
/-- a list or a tuple -/
def seqOf (S : Sto) : D → Option (List D)
  | .tup xs => some xs
  | d => derefL S d
/-- a list of the store as a tree -/
def deref (S : Sto) : D → D
  | .ref i => match S[i]? with
    | some (.lst _ xs) => .lst xs
    | _ => .ref i
  | d => d
@[simp] theorem derefL_lst (S : Sto) (xs : List D) : derefL S (.lst xs) = some xs := rfl
@[simp] theorem derefL_frz (S : Sto) (xs : List D) : derefL S (.frz xs) = some xs := rfl
@[simp] theorem seqOf_lst (S : Sto) (xs : List D) : seqOf S (.lst xs) = some xs := rfl
@[simp] theorem seqOf_frz (S : Sto) (xs : List D) : seqOf S (.frz xs) = some xs := rfl
@[simp] theorem seqOf_tup (S : Sto) (xs : List D) : seqOf S (.tup xs) = some xs := rfl
@[simp] theorem deref_lst (S : Sto) (xs : List D) : deref S (.lst xs) = .lst xs := rfl
@[simp] theorem deref_tup (S : Sto) (xs : List D) : deref S (.tup xs) = .tup xs := rfl
@[simp] theorem deref_int (S : Sto) (i : Int) : deref S (.int i) = .int i := rfl
@[simp] theorem deref_non (S : Sto) : deref S .non = .non := rfl
@[simp] theorem deref_bl (S : Sto) (b : Bool) : deref S (.bl b) = .bl b := rfl
@[simp] theorem deref_str (S : Sto) (s : List Nat) : deref S (.str s) = .str s := rfl
@[simp] theorem deref_byt (S : Sto) (s : List Nat) : deref S (.byt s) = .byt s := rfl

/-! ### expressions -/
def cM (d : D) : SE := fun _ e S => .ok d e S
/-- a name's value, as it stands -/
def rawM (i : Nat) : SE := fun _ e S => match e[i]? with
  | some (some d) => .ok d e S
  | _ => .stuck
/-- a name's value that is handed on: an own list of the frame is frozen -/
def varM (i : Nat) : SE := fun _ e S => match e[i]? with
  | some (some (.ref j)) => (match S[j]? with
    | some (.lst true xs) => .ok (.lst xs) (e.set i (some (.lst xs))) (S.set j .dead)
    | _ => .ok (.ref j) e S)
  | some (some d) => .ok d e S
  | _ => .stuck
def op1 (f : Sto → D → Option D) (a : SE) : SE := fun b e S => (a b e S).bind fun x e S => R.opt (f S x) e S
def op2 (f : Sto → D → D → Option D) (a c : SE) : SE := fun b e S => (a b e S).bind fun x e S => (c b e S).bind fun y e S => R.opt (f S x y) e S
def nilA : SA := fun _ e S => .ok [] e S
def consA (a : SE) (r : SA) : SA := fun b e S => (a b e S).bind fun x e S => (r b e S).bind fun xs e S => .ok (x :: xs) e S
/-- a built-in of values -/
def fnA (f : Sto → List D → Option D) (a : SA) : SE := fun b e S => (a b e S).bind fun xs e S => R.opt (f S xs) e S
/-- a new list's items -/
def lstA (a : SA) : SA := fun b e S => (a b e S).bind fun xs e S => if xs.length ≤ line then .ok xs e S else .stuck
/-- a new list, as a tree -/
def frzM (a : SA) : SE := fun b e S => (a b e S).bind fun xs e S => .ok (.lst xs) e S
/-- a new list, laid in the store (own: of the frame) -/
def ownM (own : Bool) (a : SA) : SE := fun b e S => (a b e S).bind fun xs e S => .ok (.ref S.length) e (S ++ [.lst own xs])
def tupM (a : SA) : SE := fun b e S => (a b e S).bind fun xs e S => if xs.length ≤ line then .ok (.tup xs) e S else .stuck
def R.out (r : R D) (e : Env) : R D := match r with
  | .ok d _ S => .ok d e S
  | .exc c fs _ S => .exc c fs e S
  | .stuck => .stuck
@[simp] theorem R.out_ok (d : D) (e e' : Env) (S : Sto) : (R.ok d e' S).out e = .ok d e S := rfl
@[simp] theorem R.out_exc (c : String) (fs : List (String × D)) (e e' : Env) (S : Sto) : (R.exc c fs e' S).out e = .exc c fs e S := rfl
@[simp] theorem R.out_stuck (e : Env) : (R.stuck : R D).out e = .stuck := rfl
def callM (m : SF) (k : Nat) (a : SA) : SE := fun b e S => (a b e S).bind fun xs e S => if xs.length = k then (m xs S).out e else .stuck

/-! ### tests -/
def truthD : D → Option Bool
  | .non => some false
  | .bl b => some b
  | .int i => some (i != 0)
  | .str s => if s.length ≤ line then some (s.length != 0) else none
  | .byt s => if s.length ≤ line then some (s.length != 0) else none
  | .lst xs => some (!xs.isEmpty)
  | .tup xs => some (!xs.isEmpty)
  | _ => none
def truth (S : Sto) (d : D) : Option Bool := truthD (deref S d)
def tstM (a : SE) : ST := fun b e S => (a b e S).bind fun x e S => R.opt (truth S x) e S
/-- a comparison of values -/
def cmpT (f : Sto → D → D → Option Bool) (a c : SE) : ST := fun b e S => (a b e S).bind fun x e S => (c b e S).bind fun y e S => R.opt (f S x y) e S
/-- a op b op' c -/
def chnT (f f' : Sto → D → D → Option Bool) (a c d : SE) : ST := fun b e S => (a b e S).bind fun x e S => (c b e S).bind fun y e S => (R.opt (f S x y) e S).bind fun k e S =>
  if k = true then (d b e S).bind fun z e S => R.opt (f' S y z) e S else .ok false e S
def notT (t : ST) : ST := fun b e S => (t b e S).bind fun k e S => .ok (!k) e S
def andT (t u : ST) : ST := fun b e S => (t b e S).bind fun k e S => if k = true then u b e S else .ok false e S
def orT (t u : ST) : ST := fun b e S => (t b e S).bind fun k e S => if k = true then .ok true e S else u b e S
def ifE (t : ST) (x y : SE) : SE := fun b e S => (t b e S).bind fun k e S => if k = true then x b e S else y b e S
/-- a test as a value (its answer is a bool) -/
def boolM (t : ST) : SE := fun b e S => (t b e S).bind fun k e S => .ok (.bl k) e S

/-! ### statements -/
def nxM : SS := fun _ e S => .ok .nx e S
def seqM (s t : SS) : SS := fun b e S => (s b e S).bind fun f e S => match f with
  | .nx => t b e S
  | f => .ok f e S
def exprM (a : SE) : SS := fun b e S => (a b e S).bind fun _ e S => .ok .nx e S
def retM (a : SE) : SS := fun b e S => (a b e S).bind fun d e S => .ok (.ret d) e S
def retN : SS := fun _ e S => .ok (.ret .non) e S
def brkM : SS := fun _ e S => .ok .bk e S
def cntM : SS := fun _ e S => .ok .ct e S
def ifM (t : ST) (x y : SS) : SS := fun b e S => (t b e S).bind fun k e S => if k = true then x b e S else y b e S
/-- targets -/
def gnM (i : Nat) : SG := fun _ d e S => if i < e.length then .ok () (e.set i (some d)) S else .stuck
def gsNil : Nat → List D → Env → Sto → R Unit := fun _ ds e S => match ds with
  | [] => .ok () e S
  | _ => .stuck
def gsCons (g : SG) (r : Nat → List D → Env → Sto → R Unit) : Nat → List D → Env → Sto → R Unit := fun b ds e S => match ds with
  | d :: ds => (g b d e S).bind fun _ e S => r b ds e S
  | [] => .stuck
/-- a, b = a tuple -/
def gtM (n : Nat) (gs : Nat → List D → Env → Sto → R Unit) : SG := fun b d e S => match d with
  | .tup xs => if xs.length = n then gs b xs e S else .stuck
  | _ => .stuck
def asgM (a : SE) (g : SG) : SS := fun b e S => (a b e S).bind fun d e S => (g b d e S).bind fun _ e S => .ok .nx e S

/-- may d be written into the object i, the frame's base being b -/
def mayPut (b i : Nat) (d : D) : Bool := decide (b ≤ i) || d.lim 0

/-- the items of a list or a tuple -/
def itemsM (a : SE) : SA := fun b e S => (a b e S).bind fun d e S => match d with
  | .lst xs => .ok xs e S
  | .frz xs => .ok xs e S
  | .tup xs => .ok xs e S
  | _ => .stuck
def rngI (lo n : Int) : Option (List D) := if (-(2 ^ 62) ≤ lo ∧ lo < 2 ^ 62) ∧ -(2 ^ 62) ≤ n ∧ n < 2 ^ 62 then some ((List.range (n - lo).toNat).map fun (i : Nat) => .int (lo + (i : Int))) else none
def rng1 (a : SE) : SA := fun b e S => (a b e S).bind fun d e S => match d with
  | .int n => R.opt (rngI 0 n) e S
  | _ => .stuck
def rng2 (a c : SE) : SA := fun b e S => (a b e S).bind fun d e S => (c b e S).bind fun d' e S => match d, d' with
  | .int lo, .int n => R.opt (rngI lo n) e S
  | _, _ => .stuck

/-! ### objects -/
def classOf (S : Sto) : D → Option (String × List (String × D))
  | .ins c fs => some (c, fs)
  | .ref i => match S[i]? with
    | some (.ins c fs) => some (c, fs)
    | _ => none
  | _ => none
@[simp] theorem classOf_ins (S : Sto) (c : String) (fs : List (String × D)) : classOf S (.ins c fs) = some (c, fs) := rfl
/-- o.name(..) of an instance: tbl tells each class's method and how many arguments it takes -/
def methM (name : String) (tbl : List (String × Nat × SF)) (o : SE) (a : SA) : SE := fun b e S => (o b e S).bind fun d e S => match classOf S d with
  | some (c, fs) => (match tbl.lookup c, fs.lookup name with
    | some (k, m), none => (a b e S).bind fun xs e S => if xs.length = k then (m (d :: xs) S).out e else .stuck
    | _, _ => .stuck)
  | none => .stuck
/-- o.f: a field (none) or a property -/
def attrM (f : String) (tbl : List (String × Option SF)) (o : SE) : SE := fun b e S => (o b e S).bind fun d e S => match classOf S d with
  | some (c, fs) => (match tbl.lookup c with
    | some none => R.opt (fs.lookup f) e S
    | some (some m) => (match m [d] S with
      | .ok d' _ S' => .ok d' e S'
      | _ => .stuck)
    | none => .stuck)
  | none => .stuck
/-- a field written: new ones behind -/
def putD (f : String) (d : D) : List (String × D) → List (String × D)
  | [] => [(f, d)]
  | p :: r => if p.1 = f then (f, d) :: r else p :: putD f d r
/-- o.f = v; cls: the classes that have f as no attribute of their own -/
def setF (f : String) (cls : List String) (o v : SE) : SS := fun b e S => (v b e S).bind fun d e S => (o b e S).bind fun x e S => match x with
  | .ref i => (match S[i]? with
    | some (.ins c fs) => if cls.elem c = true ∧ fs.length < 1000 ∧ mayPut b i d = true then .ok .nx e (S.set i (.ins c (putD f d fs))) else .stuck
    | _ => .stuck)
  | _ => .stuck
/-- o.f += v -/
def augF (f : String) (cls : List String) (op : D → D → Option D) (o v : SE) : SS := fun b e S => (o b e S).bind fun x e S => match x with
  | .ref i => (match S[i]? with
    | some (.ins c fs) => (match fs.lookup f with
      | some y => if cls.elem c = true then (v b e S).bind fun d e S => (match op y d, S[i]? with
        | some z, some (.ins c' fs') => if fs'.length < 1000 ∧ mayPut b i z = true ∧ c' = c then .ok .nx e (S.set i (.ins c' (putD f z fs'))) else .stuck
        | _, _ => .stuck) else .stuck
      | none => .stuck)
    | _ => .stuck)
  | _ => .stuck
/-- what the fields hold, own lists as trees -/
def frostD (n : Nat) (S : Sto) : D → D
  | .ref j => if n ≤ j then (match S[j]? with
    | some (.lst _ xs) => .lst xs
    | _ => .ref j) else .ref j
  | d => d
def frostF (n : Nat) : List (String × D) → Sto → List (String × D) × Sto
  | [], S => ([], S)
  | p :: r, S =>
    let S' := match p.2 with
      | .ref j => if n ≤ j then (match S[j]? with
        | some (.lst _ _) => S.set j .dead
        | _ => S) else S
      | _ => S
    ((p.1, frostD n S p.2) :: (frostF n r S').1, (frostF n r S').2)
/-- C(..): a new instance; frozen: it stands as it is when __init__ is through -/
def newM (c : String) (k : Nat) (frozen : Bool) (init : SF) (a : SA) : SE := fun b e S => (a b e S).bind fun xs e S => if xs.length = k then (match init (.ref S.length :: xs) (S ++ [.ins c []]) with
  | .ok .non _ S' => if frozen = true then (match S'[S.length]? with
      | some (.ins c' fs) => if limF S.length (frostF S.length fs S').1 = true then .ok (.ins c' (frostF S.length fs S').1) e (S'.take S.length) else .stuck
      | _ => .stuck) else .ok (.ref S.length) e S'
  | .exc c' fs _ S' => if limF 0 fs = true then .exc c' fs e (S'.take S.length) else .stuck
  | _ => .stuck) else .stuck
/-- an __init__: its object is the last of the store -/
def iniM (n : Nat) (body : SS) : SF := fun ds S => match body (S.length - 1) (ds.map some ++ List.replicate (n - ds.length) none) S with
  | .ok .nx _ S' => .ok .non [] S'
  | .ok (.ret .non) _ S' => .ok .non [] S'
  | .exc c fs _ S' => if limF 0 fs = true then .exc c fs [] S' else .stuck
  | _ => .stuck

/-! ### lists of the store -/
/-- o.append(v), o.extend(v) .. : a list of the store turned (what it is then, what is new in it); the answer None -/
def lmetM (f : Sto → List D → List D → Option (List D × List D)) (o : SE) (a : SA) : SE := fun b e S => (o b e S).bind fun x e S => match x with
  | .ref i => (match S[i]? with
    | some (.lst _ _) => (a b e S).bind fun ys e S => (match S[i]? with
      | some (.lst w xs) => (match f S xs ys with
        | some (zs, ws) => if decide (b ≤ i) || limL 0 ws then .ok .non e (S.set i (.lst w zs)) else .stuck
        | none => .stuck)
      | _ => .stuck)
    | _ => .stuck)
  | _ => .stuck
def appL : Sto → List D → List D → Option (List D × List D) := fun _ xs ys => match ys with
  | [y] => if xs.length < line then some (xs ++ [y], [y]) else none
  | _ => none
def extL : Sto → List D → List D → Option (List D × List D) := fun S xs ys => match ys with
  | [y] => (match deref S y with
    | .lst zs => if xs.length + zs.length ≤ line then some (xs ++ zs, zs) else none
    | _ => none)
  | _ => none
def clrL : Sto → List D → List D → Option (List D × List D) := fun _ _ ys => match ys with
  | [] => some ([], [])
  | _ => none
def revL : Sto → List D → List D → Option (List D × List D) := fun _ xs ys => match ys with
  | [] => some (xs.reverse, [])
  | _ => none
/-- the place that an index means -/
def ixD (n : Nat) (i : Int) : Option Nat := if 0 ≤ i then (if i < n then some i.toNat else none) else if -(n : Int) ≤ i then some (i + n).toNat else none
/-- o[i] = .. -/
def gsM (o i : SE) : SG := fun b d e S => (o b e S).bind fun x e S => (i b e S).bind fun y e S => match x, y with
  | .ref k, .int j => (match S[k]? with
    | some (.lst w xs) => (match ixD xs.length j with
      | some p => if mayPut b k d = true then .ok () e (S.set k (.lst w (xs.set p d))) else .stuck
      | none => .stuck)
    | _ => .stuck)
  | _, _ => .stuck
/-- o[i] += v -/
def augS (op : D → D → Option D) (o i v : SE) : SS := fun b e S => (o b e S).bind fun x e S => (i b e S).bind fun y e S => match x, y with
  | .ref k, .int j => (match S[k]? with
    | some (.lst _ xs) => (match (ixD xs.length j).bind fun p => xs[p]? with
      | some c => (v b e S).bind fun d e S => (match op c d, S[k]? with
        | some z, some (.lst w ys) => (match ixD ys.length j with
          | some p => if mayPut b k z = true then .ok .nx e (S.set k (.lst w (ys.set p z))) else .stuck
          | none => .stuck)
        | _, _ => .stuck)
      | none => .stuck)
    | _ => .stuck)
  | _, _ => .stuck
/-- x += v of a name -/
def augN (i : Nat) (op : Sto → D → D → Option D) (v : SE) : SS := fun b e S => match e[i]? with
  | some (some x) => (v b e S).bind fun d e S => (R.opt (op S x d) e S).bind fun z e S => if i < e.length then .ok .nx (e.set i (some z)) S else .stuck
  | _ => .stuck

/-! ### loops -/
def loopM (g : SG) (body : SS) (b : Nat) : List D → Env → Sto → R Fl
  | [], e, S => .ok .nx e S
  | d :: ds, e, S => (g b d e S).bind fun _ e S => (body b e S).bind fun f e S => match f with
    | .nx => loopM g body b ds e S
    | .ct => loopM g body b ds e S
    | .bk => .ok .nx e S
    | .ret d => .ok (.ret d) e S
/-- for: the items are told ahead -/
def forM (it : SA) (g : SG) (body : SS) : SS := fun b e S => (it b e S).bind fun xs e S => loopM g body b xs e S

def whileN (t : ST) (body : SS) (b : Nat) : Nat → Env → Sto → R Fl
  | 0, _, _ => .stuck
  | n + 1, e, S => (t b e S).bind fun k e S => if k = true then (body b e S).bind fun f e S => (match f with
    | .nx => whileN t body b n e S
    | .ct => whileN t body b n e S
    | .bk => .ok .nx e S
    | .ret d => .ok (.ret d) e S) else .ok .nx e S
open Classical in
/-- while: as many turns as are wanted -/
noncomputable def whileM (t : ST) (body : SS) : SS := fun b e S => if h : ∃ n, whileN t body b n e S ≠ .stuck then whileN t body b (Classical.choose h) e S else .stuck

theorem R.bind_ne {α β : Type} {r : R α} {k : α → Env → Sto → R β} (h : r.bind k ≠ .stuck) : r ≠ .stuck := by
  intro e; rw [e] at h; exact h rfl
theorem whileN_mono {t : ST} {body : SS} {b : Nat} : ∀ {n : Nat} {e : Env} {S : Sto}, whileN t body b n e S ≠ .stuck → whileN t body b (n + 1) e S = whileN t body b n e S
  | 0, e, S, h => absurd rfl h
  | n + 1, e, S, h => by
    have h' := h
    rw [whileN] at h' ⊢
    conv => rhs; rw [whileN]
    cases ht : t b e S with
    | stuck => rfl
    | exc c fs e1 S1 => rfl
    | ok k e1 S1 =>
      rw [ht] at h'
      simp only [R.bind_ok] at h' ⊢
      cases k with
      | false => rfl
      | true =>
        simp only [if_true] at h' ⊢
        cases hb : body b e1 S1 with
        | stuck => rfl
        | exc c fs e2 S2 => rfl
        | ok f e2 S2 =>
          rw [hb] at h'
          simp only [R.bind_ok] at h' ⊢
          cases f with
          | nx => exact whileN_mono h'
          | ct => exact whileN_mono h'
          | bk => rfl
          | ret d => rfl
theorem whileN_le {t : ST} {body : SS} {b n : Nat} {e : Env} {S : Sto} (h : whileN t body b n e S ≠ .stuck) : ∀ k, whileN t body b (n + k) e S = whileN t body b n e S
  | 0 => rfl
  | k + 1 => by
    have ih := whileN_le h k
    rw [← ih]
    exact whileN_mono (n := n + k) (fun q => h (ih.symm.trans q))
theorem whileM_of {t : ST} {body : SS} {b n : Nat} {e : Env} {S : Sto} (h : whileN t body b n e S ≠ .stuck) : whileM t body b e S = whileN t body b n e S := by
  have hx : ∃ n, whileN t body b n e S ≠ .stuck := ⟨n, h⟩
  unfold whileM
  rw [dif_pos hx]
  have hc := Classical.choose_spec hx
  rcases Nat.le_total n (Classical.choose hx) with l | l
  · obtain ⟨k, e1⟩ := Nat.exists_eq_add_of_le l
    rw [e1, whileN_le h]
  · obtain ⟨k, e1⟩ := Nat.exists_eq_add_of_le l
    have := whileN_le hc k
    rw [← e1] at this
    exact this.symm
theorem whileM_none {t : ST} {body : SS} {b : Nat} {e : Env} {S : Sto} (h : ∀ n, whileN t body b n e S = .stuck) : whileM t body b e S = .stuck := by
  unfold whileM
  rw [dif_neg (fun ⟨n, hn⟩ => hn (h n))]
/-- one turn of a while -/
theorem whileM_eq (t : ST) (body : SS) (b : Nat) (e : Env) (S : Sto) : whileM t body b e S = (t b e S).bind fun k e S => if k = true then (body b e S).bind fun f e S => (match f with
    | .nx => whileM t body b e S
    | .ct => whileM t body b e S
    | .bk => .ok .nx e S
    | .ret d => .ok (.ret d) e S) else .ok .nx e S := by
  have one : ∀ n, whileN t body b (n + 1) e S = (t b e S).bind fun k e S => if k = true then (body b e S).bind fun f e S => (match f with
    | .nx => whileN t body b n e S
    | .ct => whileN t body b n e S
    | .bk => .ok .nx e S
    | .ret d => .ok (.ret d) e S) else .ok .nx e S := fun n => by rw [whileN]
  cases ht : t b e S with
  | stuck =>
    refine whileM_none fun n => ?_
    cases n with
    | zero => rfl
    | succ n => rw [one, ht]; rfl
  | exc c fs e1 S1 => rw [whileM_of (n := 1) (by rw [one, ht]; exact fun q => by cases q), one, ht]; rfl
  | ok k e1 S1 =>
    cases k with
    | false => rw [whileM_of (n := 1) (by rw [one, ht]; exact fun q => by cases q), one, ht]; rfl
    | true =>
      cases hb : body b e1 S1 with
      | stuck =>
        have z : ∀ n, whileN t body b n e S = .stuck := fun n => by
          cases n with
          | zero => rfl
          | succ n => rw [one, ht]; simp only [R.bind_ok, if_true, hb]; rfl
        rw [whileM_none z]
        simp only [R.bind_ok, if_true, hb]; rfl
      | exc c fs e2 S2 =>
        rw [whileM_of (n := 1) (by rw [one, ht]; simp only [R.bind_ok, if_true, hb]; exact fun q => by cases q), one, ht]
        simp only [R.bind_ok, if_true, hb]; rfl
      | ok f e2 S2 =>
        have go : ∀ {r : Nat → R Fl} {q : R Fl}, (∀ n, whileN t body b (n + 1) e S = r n) → (∀ n, r n = whileN t body b n e2 S2) → q = whileM t body b e2 S2 → whileM t body b e S = q := by
          intro r q h1 h2 h3
          rw [h3]
          by_cases hx : ∃ n, whileN t body b n e2 S2 ≠ .stuck
          · obtain ⟨n, hn⟩ := hx
            rw [whileM_of hn, whileM_of (n := n + 1) (by rw [h1, h2]; exact hn), h1, h2]
          · rw [whileM_none (e := e2) fun n => Classical.byContradiction fun hn => hx ⟨n, hn⟩]
            refine whileM_none fun n => ?_
            cases n with
            | zero => rfl
            | succ n =>
              rw [h1, h2]
              exact Classical.byContradiction fun hn => hx ⟨n, hn⟩
        cases f with
        | nx => exact go (r := fun n => whileN t body b n e2 S2) (fun n => by rw [one, ht]; simp only [R.bind_ok, if_true, hb]) (fun _ => rfl) (by simp only [R.bind_ok, if_true, hb])
        | ct => exact go (r := fun n => whileN t body b n e2 S2) (fun n => by rw [one, ht]; simp only [R.bind_ok, if_true, hb]) (fun _ => rfl) (by simp only [R.bind_ok, if_true, hb])
        | bk =>
          rw [whileM_of (n := 1) (by rw [one, ht]; simp only [R.bind_ok, if_true, hb]; exact fun q => by cases q), one, ht]
          simp only [R.bind_ok, if_true, hb]
        | ret d =>
          rw [whileM_of (n := 1) (by rw [one, ht]; simp only [R.bind_ok, if_true, hb]; exact fun q => by cases q), one, ht]
          simp only [R.bind_ok, if_true, hb]

/-! ### defs -/
/-- a def: its arguments in the first slots. keep: what it has laid in the store stays -/
def fnM (n : Nat) (keep : Bool) (body : SS) : SF := fun ds S => match body S.length (ds.map some ++ List.replicate (n - ds.length) none) S with
  | .ok f _ S' => (match f with
    | .nx => .ok .non [] (if keep = true then S' else S'.take S.length)
    | .ret d => if keep = true then .ok d [] S' else if d.lim S.length = true then .ok d [] (S'.take S.length) else .stuck
    | _ => .stuck)
  | .exc c fs _ S' => if limF 0 fs = true then .exc c fs [] (S'.take S.length) else .stuck
  | .stuck => .stuck

/-! ### operations on values -/
def two64 : Int := 18446744073709551616
def addS (S : Sto) (x y : D) : Option D := match deref S x, deref S y with
  | .int i, .int j => some (.int (i + j))
  | .str a, .str b => if a.length + b.length ≤ line then some (.str (a ++ b)) else none
  | .byt a, .byt b => if a.length + b.length ≤ line then some (.byt (a ++ b)) else none
  | .lst a, .lst b => if a.length + b.length ≤ line then some (.lst (a ++ b)) else none
  | _, _ => none
def subS (_ : Sto) (x y : D) : Option D := match x, y with
  | .int i, .int j => some (.int (i - j))
  | _, _ => none
def mulOk (i j : Int) : Bool := decide ((-two64 < i ∧ i < two64) ∨ (-two64 < j ∧ j < two64))
def mulS (S : Sto) (x y : D) : Option D := match deref S x, y with
  | .int i, .int j => if mulOk i j = true then some (.int (i * j)) else none
  | .lst a, .int k => if (-9223372036854775808 ≤ k ∧ k < 9223372036854775808) ∧ a.length * k.toNat ≤ line then some (.lst (List.replicate k.toNat a).flatten) else none
  | _, _ => none
def fdivS (_ : Sto) (x y : D) : Option D := match x, y with
  | .int i, .int j => if 0 < j ∧ j < two64 then some (.int (i / j)) else none
  | _, _ => none
def modS (_ : Sto) (x y : D) : Option D := match x, y with
  | .int i, .int j => if 0 < j then some (.int (i % j)) else none
  | _, _ => none
def powS (_ : Sto) (x y : D) : Option D := match x, y with
  | .int i, .int j => if (0 ≤ j ∧ j ≤ 1000000) ∧ (-two64 < i ∧ i < two64) then some (.int (i ^ j.toNat)) else none
  | _, _ => none
def negS (_ : Sto) (x : D) : Option D := match x with
  | .int i => some (.int (-i))
  | _ => none
def ltS (_ : Sto) (x y : D) : Option Bool := match x, y with
  | .int i, .int j => some (decide (i < j))
  | _, _ => none
def leS (_ : Sto) (x y : D) : Option Bool := match x, y with
  | .int i, .int j => some (decide (i ≤ j))
  | _, _ => none
def gtS (_ : Sto) (x y : D) : Option Bool := match x, y with
  | .int i, .int j => some (decide (j < i))
  | _, _ => none
def geS (_ : Sto) (x y : D) : Option Bool := match x, y with
  | .int i, .int j => some (decide (j ≤ i))
  | _, _ => none
def eqD (x y : D) : Option Bool := if D.dataN 16 x && D.dataN 16 y then some (x.eqv y) else match x, y with
  | .byt a, .byt b => some (decide (a = b))
  | _, _ => none
def eqS (S : Sto) (x y : D) : Option Bool := eqD (deref S x) (deref S y)
def neS (S : Sto) (x y : D) : Option Bool := (eqS S x y).map (!·)
def isNoneD : D → Bool
  | .non => true
  | _ => false
def isGl : D → Bool
  | .gl _ => true
  | _ => false
/-- x is None (x no global) -/
def isS (_ : Sto) (x y : D) : Option Bool := match y with
  | .non => if isGl x then none else some (isNoneD x)
  | _ => none
def notS (_ : Sto) (x y : D) : Option Bool := match y with
  | .non => if isGl x then none else some (!isNoneD x)
  | _ => none
/-- o[i] -/
def idxS (S : Sto) (x y : D) : Option D := match y with
  | .int j => (match deref S x with
    | .lst xs => (ixD xs.length j).bind fun p => xs[p]?
    | .frz xs => (ixD xs.length j).bind fun p => xs[p]?
    | .tup xs => (ixD xs.length j).bind fun p => xs[p]?
    | .byt s => if s.length ≤ line ∧ 0 ≤ j ∧ j < s.length then (s[j.toNat]?).map fun (c : Nat) => .int (c : Int) else none
    | .str s => if s.length ≤ line then ((ixD s.length j).bind fun p => s[p]?).map fun c => .str [c] else none
    | _ => none)
  | _ => none
def lenS (S : Sto) (ds : List D) : Option D := match ds with
  | [x] => (match deref S x with
    | .lst xs => some (.int (xs.length : Int))
    | .frz xs => some (.int (xs.length : Int))
    | .tup xs => some (.int (xs.length : Int))
    | .byt s => if s.length ≤ line then some (.int (s.length : Int)) else none
    | .str s => if s.length ≤ line then some (.int (s.length : Int)) else none
    | _ => none)
  | _ => none
def intS (_ : Sto) (ds : List D) : Option D := match ds with
  | [.int i] => some (.int i)
  | [.bl k] => some (.int (if k then 1 else 0))
  | _ => none
def min2S (_ : Sto) (ds : List D) : Option D := match ds with
  | [.int i, .int j] => some (.int (if j < i then j else i))
  | _ => none
def max2S (_ : Sto) (ds : List D) : Option D := match ds with
  | [.int i, .int j] => some (.int (if j > i then j else i))
  | _ => none
/-- the type's name -/
def tyD (S : Sto) (x : D) : Option String := match deref S x with
  | .non => some "NoneType"
  | .bl _ => some "bool"
  | .int _ => some "int"
  | .str _ => some "str"
  | .byt _ => some "bytes"
  | .lst _ => some "list"
  | .frz _ => some "list"
  | .tup _ => some "tuple"
  | .edi => some "dict"
  | _ => none
/-- isinstance: by a table of types' names, or of the classes -/
def isiM (tbl : List (String × Bool)) (a : SE) : ST := fun b e S => (a b e S).bind fun x e S => match classOf S x with
  | some (c, _) => R.opt (tbl.lookup c) e S
  | none => R.opt ((tyD S x).bind fun t => tbl.lookup t) e S
/-- list(x): the items of a list or a tuple, new -/
def listA (a : SE) : SA := fun b e S => (a b e S).bind fun x e S => match deref S x with
  | .lst xs => .ok xs e S
  | .frz xs => .ok xs e S
  | .tup xs => .ok xs e S
  | _ => .stuck
/-- where a slice begins, ends -/
def cutI (n d : Nat) : Option Int → Nat
  | none => d
  | some i => if i < 0 then (i + n).toNat else min i.toNat n
def cutL {α : Type} (xs : List α) (lo hi : Option Int) : List α := (xs.drop (cutI xs.length 0 lo)).take (cutI xs.length xs.length hi - cutI xs.length 0 lo)
def partM (a : Option SE) : Nat → Env → Sto → R (Option Int) := fun b e S => match a with
  | none => .ok none e S
  | some a => (a b e S).bind fun x e S => match x with
    | .int i => .ok (some i) e S
    | _ => .stuck
/-- x[lo:hi] of a list: a new list's items -/
def slcA (a : SE) (lo hi : Option SE) : SA := fun b e S => (a b e S).bind fun x e S => (partM lo b e S).bind fun l e S => (partM hi b e S).bind fun u e S => match deref S x with
  | .lst xs => .ok (cutL xs l u) e S
  | .frz xs => .ok (cutL xs l u) e S
  | _ => .stuck
def slcS (S : Sto) (x : D) (l u : Option Int) : Option D := match deref S x with
  | .lst xs => some (.lst (cutL xs l u))
  | .frz xs => some (.lst (cutL xs l u))
  | .str s => if s.length ≤ line then some (.str (cutL s l u)) else none
  | .byt s => if s.length ≤ line then some (.byt (cutL s l u)) else none
  | _ => none
def slcM (a : SE) (lo hi : Option SE) : SE := fun b e S => (a b e S).bind fun x e S => (partM lo b e S).bind fun l e S => (partM hi b e S).bind fun u e S => R.opt (slcS S x l u) e S

/-! ### comprehensions -/
def wipeE (e : Env) : List Nat → Env
  | [] => e
  | v :: vs => (wipeE e vs).set v none
/-- a comprehension's own names back as they stood -/
def restE (vs : List Nat) (e0 e : Env) : Env := match vs with
  | [] => e
  | v :: vs => (restE vs e0 e).set v ((e0[v]?).getD none)
abbrev CT := D → Env → Option Env
def ctN (i : Nat) : CT := fun d e => if i < e.length then some (e.set i (some d)) else none
def ctsNil : List D → Env → Option Env := fun ds e => match ds with
  | [] => some e
  | _ => none
def ctsCons (g : CT) (r : List D → Env → Option Env) : List D → Env → Option Env := fun ds e => match ds with
  | d :: ds => (g d e).bind fun e => r ds e
  | [] => none
def ctT (n : Nat) (r : List D → Env → Option Env) : CT := fun d e => match d with
  | .tup xs => if xs.length = n then r xs e else none
  | _ => none
def yesT : ST := fun _ e S => .ok true e S
/-- the turns of a comprehension; id: the new list in the store -/
def compL (id : Nat) (vs : List Nat) (g : CT) (t : ST) (x : SE) (b : Nat) : List D → Env → Sto → R Unit
  | [], e, S => .ok () e S
  | d :: ds, e, S => match g d e with
    | none => .stuck
    | some e1 => (t b e1 S).bind fun k e2 S2 => if k = true then (x b e2 S2).bind fun y e3 S3 => (match S3[id]? with
        | some (.lst w acc) => if acc.length < line then compL id vs g t x b ds (wipeE e3 vs) (S3.set id (.lst w (acc ++ [y]))) else .stuck
        | _ => .stuck)
      else compL id vs g t x b ds (wipeE e2 vs) S2
def compR (w : Bool) (it : SA) (vs : List Nat) (g : CT) (t : ST) (x : SE) : Nat → Env → Sto → R Nat := fun b e S => (it b e S).bind fun xs e S => match compL S.length vs g t x b xs (wipeE e vs) (S ++ [.lst w []]) with
  | .ok _ e' S' => .ok S.length (restE vs e e') S'
  | _ => .stuck
/-- the new list as a tree -/
def compV (it : SA) (vs : List Nat) (g : CT) (t : ST) (x : SE) : SE := fun b e S => (compR true it vs g t x b e S).bind fun id e S => match S[id]? with
  | some (.lst _ acc) => .ok (.lst acc) e (S.set id .dead)
  | _ => .stuck
/-- the new list in the store -/
def compO (w : Bool) (it : SA) (vs : List Nat) (g : CT) (t : ST) (x : SE) : SE := fun b e S => (compR w it vs g t x b e S).bind fun id e S => .ok (.ref id) e S
end Mir
end

/-! MirRep -/
section
set_option Elab.async false
set_option linter.all false
set_option maxRecDepth 100000
/-! MirRep: how the trees and the store of MirSem stand in the abstract heap; readings by meanings. -/
namespace Mir
open PySem L2

/-- the ghost: what is frozen, where the store's objects stand, the caught exceptions -/
structure Gh where
  F : Hp
  m : List Addr
  x : Addr → Option (Value × Option Addr)
structure Gh.le (g g' : Gh) : Prop where
  F : ∀ a o, g.F a = some o → g'.F a = some o
  m : ∀ (i : Nat) a, g.m[i]? = some a → g'.m[i]? = some a
  x : ∀ a o, g.x a = some o → g'.x a = some o
theorem Gh.le.refl (g : Gh) : g.le g := ⟨fun _ _ h => h, fun _ _ h => h, fun _ _ h => h⟩
theorem Gh.le.trans {g g1 g2 : Gh} (a : g.le g1) (b : g1.le g2) : g.le g2 := ⟨fun _ _ h => b.F _ _ (a.F _ _ h), fun _ _ h => b.m _ _ (a.m _ _ h), fun _ _ h => b.x _ _ (a.x _ _ h)⟩

def mkS (s : List Nat) : Str := ⟨s.toArray⟩
def mkB (b : List Nat) : Array UInt8 := (b.map UInt8.ofNat).toArray
abbrev nm (s : String) : Str := Str.ofString s
theorem nm_cps (s : String) : nm s = mkS (cps s) := by
  show Str.mk _ = Str.mk _
  rw [cpsOfBytes_string]; rfl
theorem nm_inj {s t : String} (h : nm s = nm t) : s = t := by
  rw [nm_cps, nm_cps] at h
  have h1 : (cps s).toArray = (cps t).toArray := congrArg Str.cps h
  have h2 : cps s = cps t := by simpa using h1
  have h3 : s.toList = t.toList := by
    have inj : ∀ l l' : List Char, l.map Char.toNat = l'.map Char.toNat → l = l' := by
      intro l
      induction l with
      | nil => intro l' e; cases l' with
        | nil => rfl
        | cons c r => cases e
      | cons c r ih => intro l' e; cases l' with
        | nil => cases e
        | cons c' r' =>
          injection e with e1 e2
          rw [ih r' e2, Char.toNat_inj.mp e1]
    exact inj _ _ h2
  rw [← String.ofList_toList (s := s), h3, String.ofList_toList]

section
variable (K : PySem.W.Frag) (mg : Str → Option Value)
inductive Rep (g : Gh) : D → V → Prop
  | non : Rep g .non .non
  | bl {b : Bool} : Rep g (.bl b) (.bl b)
  | int {i : Int} : Rep g (.int i) (.int i)
  | str {s : List Nat} : Rep g (.str s) (.str (mkS s))
  | byt {b : List Nat} : (∀ x ∈ b, x < 256) → Rep g (.byt b) (.byt (mkB b))
  | lst {a : Addr} {vs : List V} {ds : List D} : g.F a = some (.lst vs) → vs.length = ds.length → (∀ (i : Nat) d v, ds[i]? = some d → vs[i]? = some v → Rep g d v) → Rep g (.lst ds) (.ref a)
  | frz {a : Addr} {vs : List V} {ds : List D} : SqL K g.F a vs → vs.length = ds.length → (∀ (i : Nat) d v, ds[i]? = some d → vs[i]? = some v → Rep g d v) → Rep g (.frz ds) (.ref a)
  | tup {a : Addr} {vs : List V} {ds : List D} : SqT K g.F a vs → vs.length = ds.length → (∀ (i : Nat) d v, ds[i]? = some d → vs[i]? = some v → Rep g d v) → Rep g (.tup ds) (.ref a)
  | ins {a C dx : Addr} {c : String} {fs : List (String × D)} {fv : List (Str × V)} : mg (nm c) = some (.ref C) → g.F a = some (.ins C dx fv) → fv.length = fs.length →
      (∀ (i : Nat) p q, fs[i]? = some p → fv[i]? = some q → q.1 = nm p.1) → (∀ (i : Nat) p q, fs[i]? = some p → fv[i]? = some q → Rep g p.2 q.2) → Rep g (.ins c fs) (.ref a)
  | exn {a C dd : Addr} {c : String} {fs : List (String × D)} {fv : List (Str × V)} : g.x a = some (.ref C, some dd) → mg (nm c) = some (.ref C) → g.F dd = some (.xd fv) → fv.length = fs.length →
      (∀ (i : Nat) p q, fs[i]? = some p → fv[i]? = some q → q.1 = nm p.1) → (∀ (i : Nat) p q, fs[i]? = some p → fv[i]? = some q → Rep g p.2 q.2) → Rep g (.exn c fs) (.ref a)
  | exn0 {a C : Addr} {c : String} : g.x a = some (.ref C, none) → mg (nm c) = some (.ref C) → Rep g (.exn c []) (.ref a)
  | gl {x : String} {v : V} {u : Value} : mg (nm x) = some u → RelV v u → Rep g (.gl x) v
  | ty {x : String} : Rep g (.ty x) (.ty x)
  | edi {a : Addr} : g.F a = some (.dK []) → Rep g .edi (.ref a)
  | ref {i : Nat} {a : Addr} : g.m[i]? = some a → Rep g (.ref i) (.ref a)
/-- item by item -/
structure Reps (g : Gh) (ds : List D) (vs : List V) : Prop where
  len : vs.length = ds.length
  at_ : ∀ (i : Nat) d v, ds[i]? = some d → vs[i]? = some v → Rep K mg g d v
structure RepF (g : Gh) (fs : List (String × D)) (fv : List (Str × V)) : Prop where
  len : fv.length = fs.length
  key : ∀ (i : Nat) p q, fs[i]? = some p → fv[i]? = some q → q.1 = nm p.1
  at_ : ∀ (i : Nat) p q, fs[i]? = some p → fv[i]? = some q → Rep K mg g p.2 q.2
/-- an exception of the class c with these fields: its class and its dict -/
def XRep (g : Gh) (c : String) (fs : List (String × D)) (cls : Value) (d : Option Addr) : Prop :=
  ∃ C : Addr, mg (nm c) = some (.ref C) ∧ cls = .ref C ∧ ((d = none ∧ fs = []) ∨ ∃ dd fv, d = some dd ∧ g.F dd = some (.xd fv) ∧ RepF K mg g fs fv)
end

section
variable {K : PySem.W.Frag} {mg : Str → Option Value} {g g' : Gh}
theorem ex_SqL {F F' : Hp} {a : Addr} {vs : List V} (e : ∀ a o, F a = some o → F' a = some o) (h : SqL K F a vs) : SqL K F' a vs := by
  rcases h with (h | ⟨o, h⟩) | h
  · exact .inl (.inl (e _ _ h))
  · exact .inl (.inr ⟨o, e _ _ h⟩)
  · exact .inr h
theorem ex_SqT {F F' : Hp} {a : Addr} {vs : List V} (e : ∀ a o, F a = some o → F' a = some o) (h : SqT K F a vs) : SqT K F' a vs := by
  rcases h with (h | ⟨o, h⟩) | h
  · exact .inl (.inl (e _ _ h))
  · exact .inl (.inr ⟨o, e _ _ h⟩)
  · exact .inr h
theorem Rep.mono (l : g.le g') {d : D} {v : V} (h : Rep K mg g d v) : Rep K mg g' d v := by
  induction h with
  | non => exact .non
  | bl => exact .bl
  | int => exact .int
  | str => exact .str
  | byt h => exact .byt h
  | lst h n _ ih => exact .lst (l.F _ _ h) n ih
  | frz h n _ ih => exact .frz (ex_SqL l.F h) n ih
  | tup h n _ ih => exact .tup (ex_SqT l.F h) n ih
  | ins hm h n k _ ih => exact .ins hm (l.F _ _ h) n k ih
  | exn hx hm h n k _ ih => exact .exn (l.x _ _ hx) hm (l.F _ _ h) n k ih
  | exn0 hx hm => exact .exn0 (l.x _ _ hx) hm
  | gl hm r => exact .gl hm r
  | ty => exact .ty
  | edi h => exact .edi (l.F _ _ h)
  | ref h => exact .ref (l.m _ _ h)
theorem Reps.mono (l : g.le g') {ds : List D} {vs : List V} (h : Reps K mg g ds vs) : Reps K mg g' ds vs := ⟨h.len, fun i d v a b => (h.at_ i d v a b).mono l⟩
theorem RepF.mono (l : g.le g') {fs : List (String × D)} {fv : List (Str × V)} (h : RepF K mg g fs fv) : RepF K mg g' fs fv := ⟨h.len, h.key, fun i d v a b => (h.at_ i d v a b).mono l⟩
theorem XRep.mono (l : g.le g') {c : String} {fs : List (String × D)} {cls : Value} {d : Option Addr} (h : XRep K mg g c fs cls d) : XRep K mg g' c fs cls d := by
  obtain ⟨C, h1, h2, h3 | ⟨dd, fv, h3, h4, h5⟩⟩ := h
  · exact ⟨C, h1, h2, .inl h3⟩
  · exact ⟨C, h1, h2, .inr ⟨dd, fv, h3, l.F _ _ h4, h5.mono l⟩⟩
theorem limL_get {n : Nat} : ∀ {ds : List D} {i : Nat} {d : D}, limL n ds = true → ds[i]? = some d → d.lim n = true
  | [], i, d, _, e => by simp at e
  | a :: r, 0, d, h, e => by
    rw [limL, Bool.and_eq_true_iff] at h
    have e' : a = d := by simpa using e
    rw [← e']; exact h.1
  | a :: r, i + 1, d, h, e => by
    rw [limL, Bool.and_eq_true_iff] at h
    exact limL_get h.2 (by simpa using e)
theorem limF_get {n : Nat} : ∀ {ds : List (String × D)} {i : Nat} {d : String × D}, limF n ds = true → ds[i]? = some d → d.2.lim n = true
  | [], i, d, _, e => by simp at e
  | a :: r, 0, d, h, e => by
    rw [limF, Bool.and_eq_true_iff] at h
    have e' : a = d := by simpa using e
    rw [← e']; exact h.1
  | a :: r, i + 1, d, h, e => by
    rw [limF, Bool.and_eq_true_iff] at h
    exact limF_get h.2 (by simpa using e)
/-- the store cut off above n -/
theorem Rep.cut {n : Nat} (hF : ∀ a o, g.F a = some o → g'.F a = some o) (hx : ∀ a o, g.x a = some o → g'.x a = some o) (hm : ∀ (i : Nat) a, i < n → g.m[i]? = some a → g'.m[i]? = some a) {d : D} {v : V} (h : Rep K mg g d v) (hl : d.lim n = true) : Rep K mg g' d v := by
  induction h with
  | non => exact .non
  | bl => exact .bl
  | int => exact .int
  | str => exact .str
  | byt h => exact .byt h
  | lst h k _ ih => exact .lst (hF _ _ h) k fun i d v a b => ih i d v a b (limL_get hl a)
  | frz h k _ ih => exact .frz (ex_SqL hF h) k fun i d v a b => ih i d v a b (limL_get hl a)
  | tup h k _ ih => exact .tup (ex_SqT hF h) k fun i d v a b => ih i d v a b (limL_get hl a)
  | ins h1 h k q _ ih => exact .ins h1 (hF _ _ h) k q fun i d v a b => ih i d v a b (limF_get hl a)
  | exn h0 h1 h k q _ ih => exact .exn (hx _ _ h0) h1 (hF _ _ h) k q fun i d v a b => ih i d v a b (limF_get hl a)
  | exn0 h0 h1 => exact .exn0 (hx _ _ h0) h1
  | gl h r => exact .gl h r
  | ty => exact .ty
  | edi h => exact .edi (hF _ _ h)
  | ref h => exact .ref (hm _ _ (of_decide_eq_true hl) h)
theorem Rep.limOf {n : Nat} (hn : g.m.length ≤ n) {d : D} {v : V} (h : Rep K mg g d v) : d.lim n = true := by
  have one : ∀ (ds : List D), (∀ (i : Nat) d, ds[i]? = some d → d.lim n = true) → limL n ds = true := by
    intro ds
    induction ds with
    | nil => intro _; rfl
    | cons a r ih => intro h; rw [limL, h 0 a rfl, ih fun i d e => h (i + 1) d (by simpa using e)]; rfl
  have oneF : ∀ (ds : List (String × D)), (∀ (i : Nat) d, ds[i]? = some d → d.2.lim n = true) → limF n ds = true := by
    intro ds
    induction ds with
    | nil => intro _; rfl
    | cons a r ih => intro h; rw [limF, h 0 a rfl, ih fun i d e => h (i + 1) d (by simpa using e)]; rfl
  have there : ∀ {α : Type} {vs : List α} {k i : Nat}, vs.length = k → i < k → ∃ v, vs[i]? = some v := fun {α vs k i} e hi => ⟨_, List.getElem?_eq_getElem (by omega)⟩
  induction h with
  | non => rfl
  | bl => rfl
  | int => rfl
  | str => rfl
  | byt h => rfl
  | lst h k _ ih => exact one _ fun i d e => let ⟨v, hv⟩ := there k (List.getElem?_eq_some_iff.mp e).1; ih i d v e hv
  | frz h k _ ih => exact one _ fun i d e => let ⟨v, hv⟩ := there k (List.getElem?_eq_some_iff.mp e).1; ih i d v e hv
  | tup h k _ ih => exact one _ fun i d e => let ⟨v, hv⟩ := there k (List.getElem?_eq_some_iff.mp e).1; ih i d v e hv
  | ins h1 h k q _ ih => exact oneF _ fun i d e => let ⟨v, hv⟩ := there k (List.getElem?_eq_some_iff.mp e).1; ih i d v e hv
  | exn h0 h1 h k q _ ih => exact oneF _ fun i d e => let ⟨v, hv⟩ := there k (List.getElem?_eq_some_iff.mp e).1; ih i d v e hv
  | exn0 h0 h1 => rfl
  | gl h r => rfl
  | ty => rfl
  | edi h => rfl
  | ref h => exact decide_eq_true (Nat.lt_of_lt_of_le (List.getElem?_eq_some_iff.mp h).1 hn)

theorem Reps.nil : Reps K mg g [] [] := ⟨rfl, fun i d v e => by simp at e⟩
theorem Reps.cons {d : D} {v : V} {ds : List D} {vs : List V} (h : Rep K mg g d v) (r : Reps K mg g ds vs) : Reps K mg g (d :: ds) (v :: vs) := by
  refine ⟨by simp [r.len], fun i a b e1 e2 => ?_⟩
  cases i with
  | zero =>
    have h1 : d = a := by simpa using e1
    have h2 : v = b := by simpa using e2
    rw [← h1, ← h2]; exact h
  | succ i => exact r.at_ i a b (by simpa using e1) (by simpa using e2)
theorem Reps.get {ds : List D} {vs : List V} (r : Reps K mg g ds vs) {i : Nat} {d : D} (e : ds[i]? = some d) : ∃ v, vs[i]? = some v ∧ Rep K mg g d v := by
  have hi : i < vs.length := by rw [r.len]; exact (List.getElem?_eq_some_iff.mp e).1
  exact ⟨vs[i], List.getElem?_eq_getElem hi, r.at_ i d _ e (List.getElem?_eq_getElem hi)⟩
theorem Reps.inv {ds : List D} {d : D} {vs : List V} (r : Reps K mg g (d :: ds) vs) : ∃ v r', vs = v :: r' ∧ Rep K mg g d v ∧ Reps K mg g ds r' := by
  cases vs with
  | nil => have := r.len; simp at this
  | cons v r' => exact ⟨v, r', rfl, r.at_ 0 d v rfl rfl, by simpa using r.len, fun i a b e1 e2 => r.at_ (i + 1) a b (by simpa using e1) (by simpa using e2)⟩
theorem Reps.inv0 {vs : List V} (r : Reps K mg g [] vs) : vs = [] := List.eq_nil_of_length_eq_zero r.len
theorem Reps.append {xs ys : List D} {vs ws : List V} (a : Reps K mg g xs vs) (b : Reps K mg g ys ws) : Reps K mg g (xs ++ ys) (vs ++ ws) := by
  refine ⟨by simp [a.len, b.len], fun i d v e1 e2 => ?_⟩
  by_cases h : i < xs.length
  · rw [List.getElem?_append_left h] at e1
    rw [List.getElem?_append_left (by rw [a.len]; exact h)] at e2
    exact a.at_ i d v e1 e2
  · rw [List.getElem?_append_right (by omega)] at e1
    rw [List.getElem?_append_right (by rw [a.len]; omega), a.len] at e2
    exact b.at_ _ d v e1 e2
theorem Reps.set {xs : List D} {vs : List V} {d : D} {v : V} (a : Reps K mg g xs vs) (h : Rep K mg g d v) (i : Nat) : Reps K mg g (xs.set i d) (vs.set i v) := by
  refine ⟨by simp [a.len], fun j b w e1 e2 => ?_⟩
  by_cases hj : i = j
  · subst hj
    rw [List.getElem?_set] at e1 e2
    simp only [if_true] at e1 e2
    split at e1
    · split at e2
      · cases e1; cases e2; exact h
      · cases e2
    · cases e1
  · rw [List.getElem?_set_ne hj] at e1 e2
    exact a.at_ j b w e1 e2
theorem Reps.take {xs : List D} {vs : List V} (a : Reps K mg g xs vs) (n : Nat) : Reps K mg g (xs.take n) (vs.take n) := by
  refine ⟨by simp [a.len], fun j b w e1 e2 => ?_⟩
  rw [List.getElem?_take] at e1 e2
  split at e1
  · rename_i hj; rw [if_pos hj] at e2; exact a.at_ j b w e1 e2
  · cases e1
theorem Reps.drop {xs : List D} {vs : List V} (a : Reps K mg g xs vs) (n : Nat) : Reps K mg g (xs.drop n) (vs.drop n) := by
  refine ⟨by simp [a.len], fun j b w e1 e2 => ?_⟩
  rw [List.getElem?_drop] at e1 e2
  exact a.at_ _ b w e1 e2
theorem Reps.lst {ds : List D} {vs : List V} (r : Reps K mg g ds vs) {a : Addr} (h : g.F a = some (.lst vs)) : Rep K mg g (.lst ds) (.ref a) := .lst h r.len r.at_
theorem Reps.tup {ds : List D} {vs : List V} (r : Reps K mg g ds vs) {a : Addr} (h : SqT K g.F a vs) : Rep K mg g (.tup ds) (.ref a) := .tup h r.len r.at_
theorem RepF.look {fs : List (String × D)} {fv : List (Str × V)} (r : RepF K mg g fs fv) (f : String) {d : D} (h : fs.lookup f = some d) : ∃ v, fv.lookup (nm f) = some v ∧ Rep K mg g d v := by
  induction fs generalizing fv with
  | nil => simp at h
  | cons p r' ih =>
    obtain ⟨k, x⟩ := p
    cases fv with
    | nil => have := r.len; simp at this
    | cons q fv' =>
      obtain ⟨k', y⟩ := q
      have hk : k' = nm k := r.key 0 _ _ rfl rfl
      have hr : RepF K mg g r' fv' := ⟨by simpa using r.len, fun i p q e1 e2 => r.key (i + 1) p q (by simpa using e1) (by simpa using e2), fun i p q e1 e2 => r.at_ (i + 1) p q (by simpa using e1) (by simpa using e2)⟩
      by_cases e : f = k
      · subst e
        rw [List.lookup_cons_self] at h
        cases h
        exact ⟨y, by rw [hk, List.lookup_cons_self], r.at_ 0 _ _ rfl rfl⟩
      · have e1 : (f == k) = false := beq_eq_false_iff_ne.mpr e
        have e2 : (nm f == k') = false := beq_eq_false_iff_ne.mpr fun q => e (nm_inj (q.trans hk))
        rw [List.lookup_cons, e1] at h
        obtain ⟨v, hv, rv⟩ := ih hr h
        exact ⟨v, by rw [List.lookup_cons, e2]; exact hv, rv⟩
theorem RepF.lookN {fs : List (String × D)} {fv : List (Str × V)} (r : RepF K mg g fs fv) (f : String) (h : fs.lookup f = none) : fv.lookup (nm f) = none := by
  induction fs generalizing fv with
  | nil =>
    have : fv = [] := List.eq_nil_of_length_eq_zero r.len
    rw [this]; rfl
  | cons p r' ih =>
    obtain ⟨k, x⟩ := p
    cases fv with
    | nil => rfl
    | cons q fv' =>
      obtain ⟨k', y⟩ := q
      have hk : k' = nm k := r.key 0 _ _ rfl rfl
      have hr : RepF K mg g r' fv' := ⟨by simpa using r.len, fun i p q e1 e2 => r.key (i + 1) p q (by simpa using e1) (by simpa using e2), fun i p q e1 e2 => r.at_ (i + 1) p q (by simpa using e1) (by simpa using e2)⟩
      by_cases e : f = k
      · subst e
        rw [List.lookup_cons_self] at h
        cases h
      · have e1 : (f == k) = false := beq_eq_false_iff_ne.mpr e
        have e2 : (nm f == k') = false := beq_eq_false_iff_ne.mpr fun q => e (nm_inj (q.trans hk))
        rw [List.lookup_cons, e1] at h
        rw [List.lookup_cons, e2]
        exact ih hr h
theorem RepF.inv {p : String × D} {r' : List (String × D)} {fv : List (Str × V)} (r : RepF K mg g (p :: r') fv) : ∃ y fv', fv = (nm p.1, y) :: fv' ∧ Rep K mg g p.2 y ∧ RepF K mg g r' fv' := by
  cases fv with
  | nil => have := r.len; simp at this
  | cons q fv' =>
    obtain ⟨k', y⟩ := q
    have hk : k' = nm p.1 := r.key 0 _ _ rfl rfl
    exact ⟨y, fv', by rw [hk], r.at_ 0 _ _ rfl rfl, by simpa using r.len, fun i p q e1 e2 => r.key (i + 1) p q (by simpa using e1) (by simpa using e2), fun i p q e1 e2 => r.at_ (i + 1) p q (by simpa using e1) (by simpa using e2)⟩
theorem RepF.consF {f : String} {d : D} {v : V} {fs : List (String × D)} {fv : List (Str × V)} (h : Rep K mg g d v) (r : RepF K mg g fs fv) : RepF K mg g ((f, d) :: fs) ((nm f, v) :: fv) := by
  refine ⟨by simp [r.len], fun i p q e1 e2 => ?_, fun i p q e1 e2 => ?_⟩
  · cases i with
    | zero => cases e1; cases e2; rfl
    | succ i => exact r.key i p q (by simpa using e1) (by simpa using e2)
  · cases i with
    | zero => cases e1; cases e2; exact h
    | succ i => exact r.at_ i p q (by simpa using e1) (by simpa using e2)
theorem RepF.nil : RepF K mg g [] [] := ⟨rfl, fun i p q e => by simp at e, fun i p q e => by simp at e⟩
theorem RepF.put {fs : List (String × D)} {fv : List (Str × V)} (r : RepF K mg g fs fv) (f : String) {d : D} {v : V} (h : Rep K mg g d v) : RepF K mg g (putD f d fs) (putF (nm f) v fv) := by
  induction fs generalizing fv with
  | nil =>
    have : fv = [] := List.eq_nil_of_length_eq_zero r.len
    rw [this]
    exact RepF.consF h RepF.nil
  | cons p r' ih =>
    obtain ⟨k, x⟩ := p
    obtain ⟨y, fv', rfl, rx, hr⟩ := r.inv
    show RepF K mg g (if k = f then (f, d) :: r' else (k, x) :: putD f d r') (if nm k = nm f then (nm k, v) :: fv' else (nm k, y) :: putF (nm f) v fv')
    by_cases e : k = f
    · subst e
      rw [if_pos rfl, if_pos rfl]
      exact RepF.consF h hr
    · rw [if_neg e, if_neg fun q => e (nm_inj q)]
      exact RepF.consF rx (ih hr)
end

/-! ### the store -/
def Ob.live : Ob → Bool
  | .dead => false
  | _ => true
section
variable (K : PySem.W.Frag) (mg : Str → Option Value)
def OAt (g : Gh) (H : Hp) (a : Addr) : Ob → Prop
  | .dead => True
  | .lst _ xs => g.F a = none ∧ ∃ vs, H a = some (.lst vs) ∧ Reps K mg g xs vs
  | .ins c fs => g.F a = none ∧ ∃ C dx fv, mg (nm c) = some (.ref C) ∧ H a = some (.ins C dx fv) ∧ RepF K mg g fs fv
structure SRel (g : Gh) (S : Sto) (H : Hp) : Prop where
  sub : ∀ a o, g.F a = some o → H a = some o
  len : g.m.length = S.length
  ob : ∀ (i : Nat) o a, S[i]? = some o → g.m[i]? = some a → OAt K mg g H a o
  inj : ∀ (i j : Nat) o o' a, S[i]? = some o → S[j]? = some o' → o.live = true → o'.live = true → g.m[i]? = some a → g.m[j]? = some a → i = j
/-- a def's body runs: S0 the store at its entry -/
structure Rel (g : Gh) (S0 : Sto) (e : Env) (S : Sto) (σ : L2.St) (H : Hp) : Prop where
  st : SRel K mg g S H
  le0 : S0.length ≤ S.length
  frm : ∀ (i : Nat) o, i < S0.length → S[i]? = some o → ∃ o0, S0[i]? = some o0 ∧ ∀ n, o0.lim n = true → o.lim n = true
  el : e.length = σ.length
  sl : ∀ (i : Nat) d, e[i]? = some (some d) → ∃ v, σ[i]? = some (some v) ∧ Rep K mg g d v
end
def Gh.frz (g : Gh) (p : Addr) (o : HO) : Gh := { g with F := upd g.F p o }
def Gh.new (g : Gh) (p : Addr) : Gh := { g with m := g.m ++ [p] }
section
variable {K : PySem.W.Frag} {mg : Str → Option Value} {g g' : Gh} {S S0 : Sto} {e : Env} {σ : L2.St} {H H' : Hp} {p : Addr} {o : HO}
theorem Gh.le_frz (h : g.F p = none) : g.le (g.frz p o) := ⟨fun a u e => by
  show upd g.F p o a = some u
  rw [upd_ne (fun q => by rw [q, h] at e; cases e)]; exact e, fun _ _ h => h, fun _ _ h => h⟩
theorem Gh.le_new : g.le (g.new p) := ⟨fun _ _ h => h, fun i a e => by
  show (g.m ++ [p])[i]? = some a
  rw [List.getElem?_append_left (List.getElem?_eq_some_iff.mp e).1]; exact e, fun _ _ h => h⟩
theorem OAt.mono (l : g.le g') {a : Addr} {ob : Ob} (hF : g.F a = none → g'.F a = none) (hH : ∀ u, H a = some u → H' a = some u) (h : OAt K mg g H a ob) : OAt K mg g' H' a ob := by
  cases ob with
  | dead => trivial
  | lst w xs =>
    obtain ⟨h1, vs, h2, h3⟩ := h
    exact ⟨hF h1, vs, hH _ h2, h3.mono l⟩
  | ins c fs =>
    obtain ⟨h1, C, dx, fv, h0, h2, h3⟩ := h
    exact ⟨hF h1, C, dx, fv, h0, hH _ h2, h3.mono l⟩
theorem OAt.here {a : Addr} {ob : Ob} (h : OAt K mg g H a ob) (hl : ob.live = true) : g.F a = none ∧ H a ≠ none := by
  cases ob with
  | dead => cases hl
  | lst w xs =>
    obtain ⟨h1, vs, h2, h3⟩ := h
    exact ⟨h1, by rw [h2]; simp⟩
  | ins c fs =>
    obtain ⟨h1, C, dx, fv, h0, h2, h3⟩ := h
    exact ⟨h1, by rw [h2]; simp⟩
/-- where an object of the store stands -/
theorem SRel.at_ (r : SRel K mg g S H) {i : Nat} {ob : Ob} (h : S[i]? = some ob) : ∃ a, g.m[i]? = some a ∧ OAt K mg g H a ob := by
  have hi : i < g.m.length := by rw [r.len]; exact (List.getElem?_eq_some_iff.mp h).1
  exact ⟨_, List.getElem?_eq_getElem hi, r.ob _ _ _ h (List.getElem?_eq_getElem hi)⟩
theorem SRel.fresh (r : SRel K mg g S H) (h : H p = none) : g.F p = none := by
  cases q : g.F p with
  | none => rfl
  | some u => rw [r.sub _ _ q] at h; cases h
/-- a new frozen object -/
theorem SRel.frz (r : SRel K mg g S H) (h : H p = none) : SRel K mg (g.frz p o) S (upd H p o) := by
  have hF := r.fresh h
  refine ⟨fun a u e => ?_, r.len, fun i ob a h1 h2 => ?_, r.inj⟩
  · by_cases q : a = p
    · subst q
      have e' : upd g.F a o a = some u := e
      rw [upd_same] at e'
      rw [upd_same]; exact e'
    · have e' : upd g.F p o a = some u := e
      rw [upd_ne q] at e'
      rw [upd_ne q]; exact r.sub _ _ e'
  · have hob := r.ob i ob a h1 h2
    cases hl : ob.live with
    | false =>
      cases ob with
      | dead => trivial
      | _ => cases hl
    | true =>
      obtain ⟨q1, q2⟩ := hob.here hl
      have ne : a ≠ p := fun q => q2 (by rw [q]; exact h)
      exact hob.mono (Gh.le_frz hF) (fun _ => by show upd g.F p o a = none; rw [upd_ne ne]; exact q1) fun u e => by rw [upd_ne ne]; exact e
/-- an object of the frozen part that is none of the store's: the heap grows beside -/
theorem SRel.heap (r : SRel K mg g S H) (h : ∀ a u, H a = some u → H' a = some u) : SRel K mg g S H' :=
  ⟨fun a u e => h _ _ (r.sub _ _ e), r.len, fun i ob a h1 h2 => (r.ob i ob a h1 h2).mono (.refl g) (fun q => q) (h a), r.inj⟩
/-- a new object of the store -/
theorem SRel.new (r : SRel K mg g S H) (h : H p = none) {ob : Ob} (hl : ob.live = true) (ho : OAt K mg (g.new p) (upd H p o) p ob) : SRel K mg (g.new p) (S ++ [ob]) (upd H p o) := by
  have hF := r.fresh h
  have low : ∀ {i : Nat} {u : Ob} {a : Addr}, (S ++ [ob])[i]? = some u → (g.m ++ [p])[i]? = some a → (S[i]? = some u ∧ g.m[i]? = some a ∧ i < S.length) ∨ (i = S.length ∧ u = ob ∧ a = p) := by
    intro i u a h1 h2
    by_cases hi : i < S.length
    · rw [List.getElem?_append_left hi] at h1
      rw [List.getElem?_append_left (by rw [r.len]; exact hi)] at h2
      exact .inl ⟨h1, h2, hi⟩
    · have e : i = S.length := by
        have := (List.getElem?_eq_some_iff.mp h1).1
        simp at this; omega
      subst e
      rw [List.getElem?_append_right (Nat.le_refl _)] at h1
      rw [List.getElem?_append_right (by rw [r.len]; exact Nat.le_refl _)] at h2
      simp [r.len] at h1 h2
      exact .inr ⟨rfl, h1.symm, h2.symm⟩
  have far : ∀ {i : Nat} {u : Ob} {a : Addr}, S[i]? = some u → g.m[i]? = some a → u.live = true → a ≠ p := fun {i u a} h1 h2 hu q => ((r.ob _ _ _ h1 h2).here hu).2 (by rw [q]; exact h)
  refine ⟨fun a u e => ?_, by show (g.m ++ [p]).length = _; simp [r.len], fun i u a h1 h2 => ?_, fun i j u u' a h1 h2 l1 l2 e1 e2 => ?_⟩
  · have : a ≠ p := fun q => by
      have e' : g.F a = some u := e
      rw [q, hF] at e'; cases e'
    rw [upd_ne this]; exact r.sub _ _ e
  · rcases low h1 h2 with ⟨k1, k2, _⟩ | ⟨_, rfl, rfl⟩
    · have hob := r.ob _ _ _ k1 k2
      cases hu : u.live with
      | false =>
        cases u with
        | dead => trivial
        | _ => cases hu
      | true => exact hob.mono Gh.le_new (fun q => q) fun w e => by rw [upd_ne (far k1 k2 hu)]; exact e
    · exact ho
  · rcases low h1 e1 with ⟨k1, k2, _⟩ | ⟨q1, rfl, rfl⟩
    · rcases low h2 e2 with ⟨k3, k4, _⟩ | ⟨q2, rfl, rfl⟩
      · exact r.inj _ _ _ _ _ k1 k3 l1 l2 k2 k4
      · exact absurd rfl (far k1 k2 l1)
    · rcases low h2 e2 with ⟨k3, k4, _⟩ | ⟨q2, _, _⟩
      · exact absurd rfl (far k3 k4 l2)
      · omega
/-- an object of the store written -/
theorem SRel.put (r : SRel K mg g S H) {i : Nat} {a : Addr} {ob ob' : Ob} (h : S[i]? = some ob) (hl : ob.live = true) (hm : g.m[i]? = some a) (ho : OAt K mg g (upd H a o) a ob') : SRel K mg g (S.set i ob') (upd H a o) := by
  obtain ⟨q1, q2⟩ := (r.ob _ _ _ h hm).here hl
  have hi : i < S.length := (List.getElem?_eq_some_iff.mp h).1
  have low : ∀ {j : Nat} {u : Ob}, (S.set i ob')[j]? = some u → (j = i ∧ u = ob') ∨ (j ≠ i ∧ S[j]? = some u) := by
    intro j u e
    by_cases hj : i = j
    · subst hj
      rw [List.getElem?_set_self hi] at e
      exact .inl ⟨rfl, (Option.some.inj e).symm⟩
    · rw [List.getElem?_set_ne hj] at e
      exact .inr ⟨Ne.symm hj, e⟩
  refine ⟨fun b u e => ?_, by simp [r.len], fun j u b h1 h2 => ?_, fun j k u u' b h1 h2 l1 l2 e1 e2 => ?_⟩
  · have : b ≠ a := fun q => by rw [q, q1] at e; cases e
    rw [upd_ne this]; exact r.sub _ _ e
  · rcases low h1 with ⟨rfl, rfl⟩ | ⟨nj, k1⟩
    · rw [hm] at h2; cases h2; exact ho
    · cases hu : u.live with
      | false =>
        cases u with
        | dead => trivial
        | _ => cases hu
      | true =>
        have ne : b ≠ a := fun q => nj (r.inj _ _ _ _ b k1 h hu hl h2 (by rw [q]; exact hm))
        exact (r.ob _ _ _ k1 h2).mono (.refl g) (fun q => q) fun w e => by rw [upd_ne ne]; exact e
  · rcases low h1 with ⟨rfl, rfl⟩ | ⟨nj, k1⟩
    · rcases low h2 with ⟨rfl, rfl⟩ | ⟨nk, k2⟩
      · rfl
      · exact r.inj _ _ _ _ b h k2 hl l2 e1 e2
    · rcases low h2 with ⟨rfl, rfl⟩ | ⟨nk, k2⟩
      · exact r.inj _ _ _ _ b k1 h l1 hl e1 e2
      · exact r.inj _ _ _ _ b k1 k2 l1 l2 e1 e2
/-- an object of the store frozen where it stands -/
theorem SRel.frost (r : SRel K mg g S H) {i : Nat} {a : Addr} {ob : Ob} (h : S[i]? = some ob) (hl : ob.live = true) (hm : g.m[i]? = some a) (ha : H a = some o) : SRel K mg (g.frz a o) (S.set i .dead) H := by
  obtain ⟨q1, q2⟩ := (r.ob _ _ _ h hm).here hl
  have hi : i < S.length := (List.getElem?_eq_some_iff.mp h).1
  have low : ∀ {j : Nat} {u : Ob}, (S.set i .dead)[j]? = some u → u.live = true → j ≠ i ∧ S[j]? = some u := by
    intro j u e l
    by_cases hj : i = j
    · subst hj
      rw [List.getElem?_set_self hi] at e
      cases e; cases l
    · rw [List.getElem?_set_ne hj] at e
      exact ⟨Ne.symm hj, e⟩
  refine ⟨fun b u e => ?_, by show g.m.length = _; simp [r.len], fun j u b h1 h2 => ?_, fun j k u u' b h1 h2 l1 l2 e1 e2 => ?_⟩
  · have e' : upd g.F a o b = some u := e
    by_cases q : b = a
    · subst q
      rw [upd_same] at e'
      rw [ha]; exact e'
    · rw [upd_ne q] at e'
      exact r.sub _ _ e'
  · cases hu : u.live with
    | false =>
      cases u with
      | dead => trivial
      | _ => cases hu
    | true =>
      obtain ⟨nj, k1⟩ := low h1 hu
      have ne : b ≠ a := fun q => nj (r.inj _ _ _ _ b k1 h hu hl h2 (by rw [q]; exact hm))
      obtain ⟨z1, z2⟩ := (r.ob _ _ _ k1 h2).here hu
      exact (r.ob _ _ _ k1 h2).mono (Gh.le_frz q1) (fun _ => by show upd g.F a o b = none; rw [upd_ne ne]; exact z1) fun w e => e
  · obtain ⟨_, k1⟩ := low h1 l1
    obtain ⟨_, k2⟩ := low h2 l2
    exact r.inj _ _ _ _ b k1 k2 l1 l2 e1 e2
/-- the store forgotten above n -/
theorem SRel.cut (r : SRel K mg g S H) (n : Nat) (hc : ∀ (i : Nat) o, i < n → S[i]? = some o → o.lim n = true) :
    SRel K mg { g with m := g.m.take n } (S.take n) H := by
  have low : ∀ {i : Nat} {u : Ob}, (S.take n)[i]? = some u → i < n ∧ S[i]? = some u := fun {i u} e => by
    rw [List.getElem?_take] at e
    split at e
    · rename_i h; exact ⟨h, e⟩
    · cases e
  have lowm : ∀ {i : Nat} {u : Addr}, (g.m.take n)[i]? = some u → g.m[i]? = some u := fun {i u} e => by
    rw [List.getElem?_take] at e
    split at e
    · exact e
    · cases e
  have cm : ∀ (i : Nat) a, i < n → g.m[i]? = some a → (g.m.take n)[i]? = some a := fun i a hi e => by rw [List.getElem?_take, if_pos hi]; exact e
  refine ⟨r.sub, by show (g.m.take n).length = (S.take n).length; simp [r.len], fun i u a h1 h2 => ?_, fun i j u u' a h1 h2 l1 l2 e1 e2 => r.inj i j u u' a (low h1).2 (low h2).2 l1 l2 (lowm e1) (lowm e2)⟩
  obtain ⟨hi, k1⟩ := low h1
  have hob := r.ob _ _ _ k1 (lowm h2)
  have hc' := hc i u hi k1
  cases u with
  | dead => trivial
  | lst w xs =>
    obtain ⟨z1, vs, z2, z3⟩ := hob
    exact ⟨z1, vs, z2, z3.len, fun j d v e1 e2 => Rep.cut (g := g) (g' := { g with m := g.m.take n }) (n := n) (fun _ _ q => q) (fun _ _ q => q) cm (z3.at_ j d v e1 e2) (limL_get hc' e1)⟩
  | ins c fs =>
    obtain ⟨z1, C, dx, fv, z0, z2, z3⟩ := hob
    exact ⟨z1, C, dx, fv, z0, z2, z3.len, z3.key, fun j d v e1 e2 => Rep.cut (g := g) (g' := { g with m := g.m.take n }) (n := n) (fun _ _ q => q) (fun _ _ q => q) cm (z3.at_ j d v e1 e2) (limF_get hc' e1)⟩
end
end Mir
end

/-! MirRead -/
section
set_option Elab.async false
set_option linter.all false
set_option maxRecDepth 100000
/-! MirRead: readings by meanings: each rule of the hand layer once, over meanings. -/
namespace Mir
open PySem L2

/-- what a callee leaves of the store that stood: no ref in it grows -/
structure KFr (S0 S : Sto) : Prop where
  le0 : S0.length ≤ S.length
  frm : ∀ (i : Nat) o, i < S0.length → S[i]? = some o → ∃ o0, S0[i]? = some o0 ∧ ∀ n, o0.lim n = true → o.lim n = true
theorem KFr.refl (S : Sto) : KFr S S := ⟨Nat.le_refl _, fun _ o _ h => ⟨o, h, fun _ q => q⟩⟩
theorem KFr.trans {S0 S S' : Sto} (a : KFr S0 S) (b : KFr S S') : KFr S0 S' := by
  refine ⟨Nat.le_trans a.le0 b.le0, fun i o hi h => ?_⟩
  obtain ⟨o1, h1, k1⟩ := b.frm i o (Nat.lt_of_lt_of_le hi a.le0) h
  obtain ⟨o0, h0, k0⟩ := a.frm i o1 hi h1
  exact ⟨o0, h0, fun n q => k1 n (k0 n q)⟩
/-- one object turned -/
theorem KFr.set {S0 S : Sto} {i : Nat} {o ob : Ob} (k : KFr S0 S) (h : S[i]? = some ob) (hp : S0.length ≤ i ∨ ∀ n, ob.lim n = true → o.lim n = true) : KFr S0 (S.set i o) := by
  have hi : i < S.length := (List.getElem?_eq_some_iff.mp h).1
  refine ⟨by simp [k.le0], fun j u hj hu => ?_⟩
  by_cases e : i = j
  · subst e
    rw [List.getElem?_set_self hi] at hu
    cases hu
    rcases hp with hp | hp
    · omega
    · obtain ⟨o0, h0, k0⟩ := k.frm i ob hj h
      exact ⟨o0, h0, fun n q => hp n (k0 n q)⟩
  · rw [List.getElem?_set_ne e] at hu
    exact k.frm j u hj hu
theorem KFr.push {S0 S : Sto} (k : KFr S0 S) (l : Sto) : KFr S0 (S ++ l) := by
  refine ⟨by rw [List.length_append]; exact Nat.le_trans k.le0 (Nat.le_add_right _ _), fun j u hj hu => ?_⟩
  rw [List.getElem?_append_left (Nat.lt_of_lt_of_le hj k.le0)] at hu
  exact k.frm j u hj hu
section
variable {K : PySem.W.Frag} {mg : Str → Option Value}
theorem Rel.kfr {g : Gh} {S0 : Sto} {e : Env} {S : Sto} {σ : L2.St} {H : Hp} (r : Rel K mg g S0 e S σ H) : KFr S0 S := ⟨r.le0, r.frm⟩
/-- the store has moved, the slots stand -/
theorem Rel.move {g g' : Gh} {S0 : Sto} {e : Env} {S S' : Sto} {σ : L2.St} {H H' : Hp} (r : Rel K mg g S0 e S σ H) (l : g.le g') (s : SRel K mg g' S' H') (k : KFr S S') : Rel K mg g' S0 e S' σ H' := by
  have k2 := r.kfr.trans k
  exact ⟨s, k2.le0, k2.frm, r.el, fun i d h => let ⟨v, h1, h2⟩ := r.sl i d h; ⟨v, h1, h2.mono l⟩⟩
/-- a slot written -/
theorem Rel.slot {g : Gh} {S0 : Sto} {e : Env} {S : Sto} {σ : L2.St} {H : Hp} (r : Rel K mg g S0 e S σ H) {i : Nat} (hi : i < e.length) {d : D} {v : V} (h : Rep K mg g d v) : Rel K mg g S0 (e.set i (some d)) S (σ.set i (some v)) H := by
  refine ⟨r.st, r.le0, r.frm, by simp [r.el], fun j b h1 => ?_⟩
  by_cases hj : i = j
  · subst hj
    rw [List.getElem?_set_self hi] at h1
    cases h1
    exact ⟨v, List.getElem?_set_self (by rw [← r.el]; exact hi), h⟩
  · rw [List.getElem?_set_ne hj] at h1
    obtain ⟨w, h2, h3⟩ := r.sl j b h1
    exact ⟨w, by rw [List.getElem?_set_ne hj]; exact h2, h3⟩
/-- heap and ghost go on, whatever the frame -/
structure Ext (K : PySem.W.Frag) (mg : Str → Option Value) (g : Gh) (H : Hp) (g' : Gh) (H' : Hp) : Prop where
  le : g.le g'
  rel : ∀ S, SRel K mg g S H → SRel K mg g' S H'
theorem Ext.refl (g : Gh) (H : Hp) : Ext K mg g H g H := ⟨.refl g, fun _ h => h⟩
theorem Ext.frz {g : Gh} {S : Sto} {H : Hp} {p : Addr} {o : HO} (r : SRel K mg g S H) (h : H p = none) : Ext K mg g H (g.frz p o) (upd H p o) := ⟨Gh.le_frz (r.fresh h), fun _ q => q.frz h⟩
theorem Ext.trans {g g1 g2 : Gh} {H H1 H2 : Hp} (a : Ext K mg g H g1 H1) (b : Ext K mg g1 H1 g2 H2) : Ext K mg g H g2 H2 := ⟨a.le.trans b.le, fun S h => b.rel S (a.rel S h)⟩
theorem Rel.ext {g g' : Gh} {S0 : Sto} {e : Env} {S : Sto} {σ : L2.St} {H H' : Hp} (r : Rel K mg g S0 e S σ H) (x : Ext K mg g H g' H') : Rel K mg g' S0 e S σ H' := r.move x.le (x.rel _ r.st) (.refl S)

/-- what a result promises -/
def Post {α : Type} (K : PySem.W.Frag) (mg : Str → Option Value) (W : WX) (S0 : Sto) (T : L2.St → Prop) (g : Gh) (r : R α) (Φ : Gh → α → Env → Sto → L2.St → Hp → Prop) : Prop := match r with
  | .ok a e S => ∀ g' σ' H', T σ' → g.le g' → Rel K mg g' S0 e S σ' H' → Φ g' a e S σ' H'
  | .exc c fs e S => ∀ g' σ' H' cls d, T σ' → g.le g' → Rel K mg g' S0 e S σ' H' → XRep K mg g' c fs cls d → W cls d σ' H'
  | .stuck => False
section
variable {α β : Type} {W : WX} {S0 : Sto} {T T' : L2.St → Prop} {g g' : Gh} {r : R α}
theorem Post.le {Φ : Gh → α → Env → Sto → L2.St → Hp → Prop} (h : Post K mg W S0 T g r Φ) (l : g.le g') : Post K mg W S0 T g' r Φ := by
  cases r with
  | ok a e S => exact fun g1 σ1 H1 t l1 q => h g1 σ1 H1 t (l.trans l1) q
  | exc c fs e S => exact fun g1 σ1 H1 cls d t l1 q x => h g1 σ1 H1 cls d t (l.trans l1) q x
  | stuck => exact h
theorem Post.imp {Φ Ψ : Gh → α → Env → Sto → L2.St → Hp → Prop} (h : Post K mg W S0 T g r Φ) (ht : ∀ σ, T' σ → T σ) (k : ∀ g' a e S σ' H', T' σ' → g.le g' → Rel K mg g' S0 e S σ' H' → Φ g' a e S σ' H' → Ψ g' a e S σ' H') : Post K mg W S0 T' g r Ψ := by
  cases r with
  | ok a e S => exact fun g1 σ1 H1 t l1 q => k g1 a e S σ1 H1 t l1 q (h g1 σ1 H1 (ht _ t) l1 q)
  | exc c fs e S => exact fun g1 σ1 H1 cls d t l1 q x => h g1 σ1 H1 cls d (ht _ t) l1 q x
  | stuck => exact h
theorem Post.bind {f : α → Env → Sto → R β} {Φ : Gh → β → Env → Sto → L2.St → Hp → Prop} (h : Post K mg W S0 T g (r.bind f) Φ) : Post K mg W S0 T g r (fun g' a e S _ _ => Post K mg W S0 T g' (f a e S) Φ) := by
  cases r with
  | ok a e S => exact fun g1 σ1 H1 t l1 q => Post.le h l1
  | exc c fs e S => exact h
  | stuck => exact h
theorem Post.opt {o : Option α} {e : Env} {S : Sto} {Φ : Gh → α → Env → Sto → L2.St → Hp → Prop} (h : Post K mg W S0 T g (R.opt o e S) Φ) : ∃ a, o = some a ∧ ∀ g' σ' H', T σ' → g.le g' → Rel K mg g' S0 e S σ' H' → Φ g' a e S σ' H' := by
  cases o with
  | none => exact False.elim h
  | some a => exact ⟨a, rfl, h⟩
end
end

/-- where a rule may stand -/
structure Ok (X : Cx) (W : WX) : Prop where
  tk : Takes X W
  po : PassesOwn (model X.prog X.w) X.A X.env X.xe
  hu : X.A.units + 64 < cLine

def tI (X : Cx) (W : WX) (f : SE) : TE := fun σ H Q => ∃ g S0 e S, Rel X.K X.mg g S0 e S σ H ∧ Post X.K X.mg W S0 (· = σ) g (f S0.length e S) (fun g' d _ _ _ H' => ∀ v, Rep X.K X.mg g' d v → Q v H')
def tAI (X : Cx) (W : WX) (f : SA) : TA := fun σ H Q => ∃ g S0 e S, Rel X.K X.mg g S0 e S σ H ∧ Post X.K X.mg W S0 (· = σ) g (f S0.length e S) (fun g' ds _ _ _ H' => ∀ vs, Reps X.K X.mg g' ds vs → Q vs H')
def tTI (X : Cx) (W : WX) (f : ST) : TT := fun σ H Q => ∃ g S0 e S, Rel X.K X.mg g S0 e S σ H ∧ Post X.K X.mg W S0 (· = σ) g (f S0.length e S) (fun _ b _ _ _ H' => Q b H')
def EndOf (K : PySem.W.Frag) (mg : Str → Option Value) (D : Ends) : Gh → Fl → Env → Sto → L2.St → Hp → Prop := fun g f _ _ σ H => match f with
  | .nx => D.nx σ H
  | .bk => D.bk σ H
  | .ct => D.ct σ H
  | .ret d => ∀ v, Rep K mg g d v → D.rt v H
def tSI (X : Cx) (W : WX) (f : SS) : TS := fun D σ H => ∃ g S0 e S, Rel X.K X.mg g S0 e S σ H ∧ Post X.K X.mg W S0 (fun _ => True) g (f S0.length e S) (EndOf X.K X.mg D)
def tGI (X : Cx) (W : WX) (f : SG) : TG := fun v σ H Q => ∃ g S0 e S d, Rel X.K X.mg g S0 e S σ H ∧ Rep X.K X.mg g d v ∧ Post X.K X.mg W S0 (fun _ => True) g (f S0.length d e S) (fun _ _ _ _ σ' H' => Q σ' H')
def tGsI (X : Cx) (W : WX) (f : Nat → List D → Env → Sto → R Unit) : TGs := fun vs σ H Q => ∃ g S0 e S ds, Rel X.K X.mg g S0 e S σ H ∧ Reps X.K X.mg g ds vs ∧ Post X.K X.mg W S0 (fun _ => True) g (f S0.length ds e S) (fun _ _ _ _ σ' H' => Q σ' H')

def RE (X : Cx) (e : Expr) (f : SE) : Prop := ∀ W, Ok X W → PE X e (tI X W f)
def RA (X : Cx) (es : List Expr) (f : SA) : Prop := ∀ W, Ok X W → PA X es (tAI X W f)
def RT (X : Cx) (e : Expr) (f : ST) : Prop := ∀ W, Ok X W → PT X e (tTI X W f)
def RW (X : Cx) (e : Expr) (f : ST) : Prop := ∀ W, Ok X W → PW X e (tTI X W f)
def RS (X : Cx) (s : Stmt) (f : SS) : Prop := ∀ W, Ok X W → PS X s (tSI X W f)
def RSs (X : Cx) (s : List Stmt) (f : SS) : Prop := ∀ W, Ok X W → PSs X s (tSI X W f)
def RG (X : Cx) (tg : Expr) (f : SG) : Prop := ∀ W, Ok X W → PG X tg (tGI X W f)
def RGs (X : Cx) (ts : List Expr) (f : Nat → List D → Env → Sto → R Unit) : Prop := ∀ W, Ok X W → PGs X ts (tGsI X W f)

section
variable {X : Cx}
theorem pe_imp {e : Expr} {t t' : TE} (h : PE X e t) (k : ∀ σ H Q, t' σ H Q → t σ H Q) : PE X e t' := ⟨fun pins s σ H Q I q => h.run pins s σ H Q I (k σ H Q q)⟩
theorem pa_imp {e : List Expr} {t t' : TA} (h : PA X e t) (k : ∀ σ H Q, t' σ H Q → t σ H Q) : PA X e t' := ⟨fun pos pins s σ H Q I q => h.run pos pins s σ H Q I (k σ H Q q)⟩
theorem pt_imp {e : Expr} {t t' : TT} (h : PT X e t) (k : ∀ σ H Q, t' σ H Q → t σ H Q) : PT X e t' := ⟨fun pins s σ H Q I q => h.run pins s σ H Q I (k σ H Q q)⟩
theorem pw_imp {e : Expr} {t t' : TT} (h : PW X e t) (k : ∀ σ H Q, t' σ H Q → t σ H Q) : PW X e t' := ⟨fun wh pins s σ H Q I q => h.run wh pins s σ H Q I (k σ H Q q)⟩
theorem ps_imp {e : Stmt} {t t' : TS} (h : PS X e t) (k : ∀ D σ H, t' D σ H → t D σ H) : PS X e t' := ⟨fun pins s σ H D I q => h.run pins s σ H D I (k D σ H q)⟩
theorem pss_imp {e : List Stmt} {t t' : TS} (h : PSs X e t) (k : ∀ D σ H, t' D σ H → t D σ H) : PSs X e t' := ⟨fun pins s σ H D I q => h.run pins s σ H D I (k D σ H q)⟩
theorem pg_imp {e : Expr} {t t' : TG} (h : PG X e t) (k : ∀ v σ H Q, t' v σ H Q → t v σ H Q) : PG X e t' := ⟨fun pins s σ H v u Q I r q => h.run pins s σ H v u Q I r (k v σ H Q q)⟩
theorem pgs_imp {e : List Expr} {t t' : TGs} (h : PGs X e t) (k : ∀ v σ H Q, t' v σ H Q → t v σ H Q) : PGs X e t' := ⟨fun pins s σ H v u Q I r q => h.run pins s σ H v u Q I r (k v σ H Q q)⟩

/-! ### names, constants -/
theorem re_c {e : Expr} {d : D} {v : V} (h : ∀ W, Ok X W → PE X e (tC v)) (r : ∀ g, Rep X.K X.mg g d v) : RE X e (cM d) := fun W ok => pe_imp (h W ok) fun σ H Q ⟨g, S0, e, S, rel, q⟩ =>
  q g σ H rfl (.refl g) rel v (r g)
theorem re_int {i : Int} {j : Nat} {pos : Pos} : RE X (.Constant (.int i) j pos) (cM (.int i)) := re_c (fun _ _ => pe_int) fun _ => .int
theorem re_bl {b : Bool} {j : Nat} {pos : Pos} : RE X (.Constant (.bool b) j pos) (cM (.bl b)) := re_c (fun _ _ => pe_bl) fun _ => .bl
theorem re_non {j : Nat} {pos : Pos} : RE X (.Constant .none j pos) (cM .non) := re_c (fun _ _ => pe_non) fun _ => .non
theorem re_str {s : String} {j : Nat} {pos : Pos} : RE X (.Constant (.str (nm s)) j pos) (cM (.str (cps s))) := re_c (fun _ _ => pe_str) fun _ => by rw [nm_cps]; exact .str
theorem re_raw {i : Nat} {x : Str} {pos : Pos} (hN : X.N[i]? = some x := by rfl) (hv : Vis X.env.scope x := by first | exact Or.inl rfl | exact Or.inr (Or.inl rfl) | exact Or.inr (Or.inr rfl)) (hd : (x == ("__debug__" : Str)) = false := by decide)
    (hcd : (x == ("__classdict__" : Str)) = false := by decide) : RE X (.Name x pos) (rawM i) := fun W ok => pe_imp (pe_var hN hv hd hcd) fun σ H Q ⟨g, S0, e, S, rel, q⟩ => by
  unfold rawM at q
  split at q
  · rename_i d he
    obtain ⟨v, h1, h2⟩ := rel.sl i d he
    exact ⟨v, h1, q g σ H rfl (.refl g) rel v h2⟩
  · exact q.elim
theorem re_var {i : Nat} {x : Str} {pos : Pos} (hN : X.N[i]? = some x := by rfl) (hv : Vis X.env.scope x := by first | exact Or.inl rfl | exact Or.inr (Or.inl rfl) | exact Or.inr (Or.inr rfl)) (hd : (x == ("__debug__" : Str)) = false := by decide)
    (hcd : (x == ("__classdict__" : Str)) = false := by decide) : RE X (.Name x pos) (varM i) := fun W ok => pe_imp (pe_var hN hv hd hcd) fun σ H Q ⟨g, S0, e, S, rel, q⟩ => by
  unfold varM at q
  split at q
  · rename_i j he
    obtain ⟨v, h1, h2⟩ := rel.sl i _ he
    split at q
    · rename_i xs hs
      obtain ⟨a, hm, hF, vs, ha, hr⟩ := rel.st.at_ hs
      cases h2 with
      | ref hm' =>
        rw [hm] at hm'; cases hm'
        have hi : i < e.length := (List.getElem?_eq_some_iff.mp he).1
        have st' := rel.st.frost hs rfl hm ha
        have le' : g.le (g.frz a (.lst vs)) := Gh.le_frz hF
        have rep : Rep X.K X.mg (g.frz a (.lst vs)) (.lst xs) (.ref a) := (hr.mono le').lst (by show upd g.F a (.lst vs) a = _; exact upd_same)
        have kf : KFr S (S.set j .dead) := (KFr.refl S).set hs (.inr fun _ _ => rfl)
        have rel' := (rel.move le' st' kf).slot hi rep
        have eσ : σ.set i (some (.ref a)) = σ := by
          refine List.ext_getElem? fun k => ?_
          by_cases hk : i = k
          · subst hk
            rw [List.getElem?_set_self (by rw [← rel.el]; exact hi), h1]
          · rw [List.getElem?_set_ne hk]
        rw [eσ] at rel'
        exact ⟨_, h1, q _ σ H rfl le' rel' _ rep⟩
    · exact ⟨v, h1, q g σ H rfl (.refl g) rel v h2⟩
  · rename_i d _ he
    obtain ⟨v, h1, h2⟩ := rel.sl i d he
    exact ⟨v, h1, q g σ H rfl (.refl g) rel v h2⟩
  · exact q.elim
theorem re_glob {x : String} {v : V} {u : Value} {pos : Pos} (hg : Gl X (nm x)) (hm : X.mg (nm x) = some u) (r : RelV v u) (hd : (nm x == ("__debug__" : Str)) = false := by decide +kernel) : RE X (.Name (nm x) pos) (cM (.gl x)) :=
  re_c (fun _ _ => pe_glob hg hm r hd) fun _ => .gl hm r
/-- a whole number of the module -/
theorem re_globI {x : Str} {i : Int} {t : Tok} {pos : Pos} (hg : Gl X x) (hm : X.mg x = some (.int i t)) (hd : (x == ("__debug__" : Str)) = false := by decide +kernel) : RE X (.Name x pos) (cM (.int i)) :=
  re_c (fun _ _ => pe_glob (v := .int i) hg hm ⟨t, rfl⟩ hd) fun _ => .int

/-! ### operators -/
/-- what an operation on values asks, by meanings -/
def OpL (K : PySem.W.Frag) (mg : Str → Option Value) (f : Sto → D → D → Option D) (r : R2) : Prop :=
  ∀ (g : Gh) (S : Sto) (H : Hp) (x y z : D) (v u : V) (Q : VK), SRel K mg g S H → Rep K mg g x v → Rep K mg g y u → f S x y = some z → (∀ g' H' w, Ext K mg g H g' H' → Rep K mg g' z w → Q w H') → r v u H Q
def UnL (K : PySem.W.Frag) (mg : Str → Option Value) (f : Sto → D → Option D) (r : V → Hp → VK → Prop) : Prop :=
  ∀ (g : Gh) (S : Sto) (H : Hp) (x z : D) (v : V) (Q : VK), SRel K mg g S H → Rep K mg g x v → f S x = some z → (∀ g' H' w, Ext K mg g H g' H' → Rep K mg g' z w → Q w H') → r v H Q
def CallL (K : PySem.W.Frag) (mg : Str → Option Value) (f : Sto → List D → Option D) (r : List V → Hp → VK → Prop) : Prop :=
  ∀ (g : Gh) (S : Sto) (H : Hp) (xs : List D) (z : D) (vs : List V) (Q : VK), SRel K mg g S H → Reps K mg g xs vs → f S xs = some z → (∀ g' H' w, Ext K mg g H g' H' → Rep K mg g' z w → Q w H') → r vs H Q
theorem two {W : WX} {fa fb : SE} {f : Sto → D → D → Option D} {r : R2} (hr : OpL X.K X.mg f r) : ∀ σ H Q, tI X W (op2 f fa fb) σ H Q → tOp r (tI X W fa) (tI X W fb) σ H Q := fun σ H Q ⟨g, S0, e, S, rel, q⟩ =>
  ⟨g, S0, e, S, rel, q.bind.imp (fun _ t => t) fun g1 x e1 S1 σ1 H1 t1 l1 rel1 q1 v rv => by
    subst t1
    exact ⟨g1, S0, e1, S1, rel1, q1.bind.imp (fun _ t => t) fun g2 y e2 S2 σ2 H2 t2 l2 rel2 q2 u ru => by
      subst t2
      obtain ⟨z, hz, q3⟩ := q2.opt
      exact hr g2 S2 H2 x y z v u Q rel2.st (rv.mono l2) ru hz fun g3 H3 w x3 rw3 => q3 g3 _ H3 rfl x3.le (rel2.ext x3) w rw3⟩⟩
theorem one {W : WX} {fa : SE} {f : Sto → D → Option D} {r : V → Hp → VK → Prop} (hr : UnL X.K X.mg f r) : ∀ σ H Q, tI X W (op1 f fa) σ H Q → tUn r (tI X W fa) σ H Q := fun σ H Q ⟨g, S0, e, S, rel, q⟩ =>
  ⟨g, S0, e, S, rel, q.bind.imp (fun _ t => t) fun g1 x e1 S1 σ1 H1 t1 l1 rel1 q1 v rv => by
    subst t1
    obtain ⟨z, hz, q3⟩ := q1.opt
    exact hr g1 S1 H1 x z v Q rel1.st rv hz fun g3 H3 w x3 rw3 => q3 g3 _ H3 rfl x3.le (rel1.ext x3) w rw3⟩
theorem re_op {a b : Expr} {op : Operator} {pos : Pos} {fa fb : SE} {f : Sto → D → D → Option D} {r : R2} (ho : OpR X (binaryOp op) r) (hr : OpL X.K X.mg f r) (ha : RE X a fa) (hb : RE X b fb) : RE X (.BinOp a op b pos) (op2 f fa fb) :=
  fun W ok => pe_imp (pe_op ho (ha W ok) (hb W ok)) (two hr)
theorem re_un {a : Expr} {op : UnaryOp} {pos : Pos} {fa : SE} {f : Sto → D → Option D} {r : V → Hp → VK → Prop} (ho : UnR X (unaryOp op) r) (hr : UnL X.K X.mg f r) (ha : RE X a fa) : RE X (.UnaryOp op a pos) (op1 f fa) :=
  fun W ok => pe_imp (pe_un ho (ha W ok)) (one hr)

/-! ### arguments, displays, calls of built-ins -/
theorem ra_nil : RA X [] nilA := fun W ok => pa_imp pa_nil fun σ H Q ⟨g, S0, e, S, rel, q⟩ => q g σ H rfl (.refl g) rel [] .nil
theorem ra_cons {e : Expr} {es : List Expr} {f : SE} {fs : SA} (h : RE X e f) (hr : RA X es fs) (hs : starEach (e :: es) X.env = (false, eval e X.env) :: starEach es X.env := by rfl) : RA X (e :: es) (consA f fs) :=
  fun W ok => pa_imp (pa_cons (h W ok) (hr W ok) hs) fun σ H Q ⟨g, S0, e, S, rel, q⟩ =>
  ⟨g, S0, e, S, rel, q.bind.imp (fun _ t => t) fun g1 x e1 S1 σ1 H1 t1 l1 rel1 q1 v rv => by
    subst t1
    exact ⟨g1, S0, e1, S1, rel1, q1.bind.imp (fun _ t => t) fun g2 ys e2 S2 σ2 H2 t2 l2 rel2 q2 us ru => by
      subst t2
      exact q2 g2 _ H2 rfl (.refl g2) rel2 (v :: us) (.cons (rv.mono l2) ru)⟩⟩
theorem line_eq : line = sizeLine := by rw [sizeLine_eq]; rfl
theorem re_tup {es : List Expr} {k : Nat} {pos : Pos} {fs : SA} (h : RA X es fs) : RE X (.Tuple es k pos) (tupM fs) := fun W ok => pe_imp (pe_tup (h W ok)) fun σ H Q ⟨g, S0, e, S, rel, q⟩ =>
  ⟨g, S0, e, S, rel, q.bind.imp (fun _ t => t) fun g1 xs e1 S1 σ1 H1 t1 l1 rel1 q1 vs rvs => by
    subst t1
    by_cases hl : xs.length ≤ line
    · rw [if_pos hl] at q1
      refine ⟨by rw [rvs.len, ← line_eq]; exact hl, fun p hp => ?_⟩
      have x := Ext.frz (o := .tup vs) rel1.st hp
      exact q1 _ _ _ rfl x.le (rel1.ext x) _ ((rvs.mono x.le).tup (.inl (.inl (by show upd g1.F p _ p = _; exact upd_same))))
    · rw [if_neg hl] at q1
      exact q1.elim⟩
/-- a new list: what its items are -/
def tLI (X : Cx) (W : WX) (f : SA) : TE := fun σ H Q => ∃ g S0 e S, Rel X.K X.mg g S0 e S σ H ∧ Post X.K X.mg W S0 (· = σ) g (f S0.length e S) (fun g' xs _ _ _ H' => ∀ p vs, H' p = none → Reps X.K X.mg g' xs vs → Q (.ref p) (upd H' p (.lst vs)))
def RL (X : Cx) (e : Expr) (f : SA) : Prop := ∀ W, Ok X W → PE X e (tLI X W f)
theorem re_frz {e : Expr} {f : SA} (h : RL X e f) : RE X e (frzM f) := fun W ok => pe_imp (h W ok) fun σ H Q ⟨g, S0, e, S, rel, q⟩ =>
  ⟨g, S0, e, S, rel, q.bind.imp (fun _ t => t) fun g1 xs e1 S1 σ1 H1 t1 l1 rel1 q1 p vs hp rvs => by
    have x := Ext.frz (o := .lst vs) rel1.st hp
    exact q1 _ _ _ t1 x.le (rel1.ext x) _ ((rvs.mono x.le).lst (by show upd g1.F p _ p = _; exact upd_same))⟩
theorem re_own {e : Expr} {f : SA} (w : Bool) (h : RL X e f) : RE X e (ownM w f) := fun W ok => pe_imp (h W ok) fun σ H Q ⟨g, S0, e, S, rel, q⟩ =>
  ⟨g, S0, e, S, rel, q.bind.imp (fun _ t => t) fun g1 xs e1 S1 σ1 H1 t1 l1 rel1 q1 p vs hp rvs => by
    have hm : (g1.new p).m[S1.length]? = some p := by
      show (g1.m ++ [p])[S1.length]? = some p
      rw [← rel1.st.len, List.getElem?_append_right (Nat.le_refl _)]
      simp
    have st' := rel1.st.new (o := .lst vs) (ob := .lst w xs) hp rfl ⟨rel1.st.fresh hp, vs, upd_same, rvs.mono Gh.le_new⟩
    have k : KFr S1 (S1 ++ [.lst w xs]) := (KFr.refl S1).push _
    exact q1 _ _ _ t1 Gh.le_new (rel1.move Gh.le_new st' k) _ (.ref hm)⟩
theorem rl_lst {es : List Expr} {pos : Pos} {fs : SA} (h : RA X es fs) : RL X (.List es pos) (lstA fs) := fun W ok => pe_imp (pe_lst (h W ok)) fun σ H Q ⟨g, S0, e, S, rel, q⟩ =>
  ⟨g, S0, e, S, rel, q.bind.imp (fun _ t => t) fun g1 xs e1 S1 σ1 H1 t1 l1 rel1 q1 vs rvs => by
    subst t1
    by_cases hl : xs.length ≤ line
    · rw [if_pos hl] at q1
      exact ⟨by rw [rvs.len, ← line_eq]; exact hl, fun p hp => q1 g1 _ H1 rfl (.refl g1) rel1 p vs hp rvs⟩
    · rw [if_neg hl] at q1
      exact q1.elim⟩
theorem many {W : WX} {fs : SA} {f : Sto → List D → Option D} {r : List V → Hp → VK → Prop} (hr : CallL X.K X.mg f r) : ∀ σ H Q, tI X W (fnA f fs) σ H Q → tCB r (tAI X W fs) σ H Q := fun σ H Q ⟨g, S0, e, S, rel, q⟩ =>
  ⟨g, S0, e, S, rel, q.bind.imp (fun _ t => t) fun g1 xs e1 S1 σ1 H1 t1 l1 rel1 q1 vs rvs => by
    subst t1
    obtain ⟨z, hz, q3⟩ := q1.opt
    exact hr g1 S1 H1 xs z vs Q rel1.st rvs hz fun g3 H3 w x3 rw3 => q3 g3 _ H3 rfl x3.le (rel1.ext x3) w rw3⟩
theorem re_callB {x : Str} {e : Expr} {es : List Expr} {p pos : Pos} {id : String} {fs : SA} {f : Sto → List D → Option D} {r : List V → Hp → VK → Prop} (hc : CallR X (.builtin id) r) (hr : CallL X.K X.mg f r) (hg : Gl X x) (hm : X.mg x = none) (hv : bootBuiltins x = some (.builtin id))
    (ha : RA X (e :: es) fs) (hn : x ≠ "__name__" := by decide) (hdb : (x == ("__debug__" : Str)) = false := by decide) (he : starEach (e :: es) X.env = (false, eval e X.env) :: starEach es X.env := by rfl) (hpl : (backTo pos (starEach es X.env)).any (·.1) = false := by rfl) :
    RE X (.Call (.Name x p) (e :: es) [] pos) (fnA f fs) := fun W ok => pe_imp (pe_callB hc hg hm hv (ha W ok) hn hdb he hpl) (many hr)
theorem re_callTy {x : Str} {e : Expr} {es : List Expr} {p pos : Pos} {T : String} {fs : SA} {f : Sto → List D → Option D} {r : List V → Hp → VK → Prop} (hc : CallR X (.type T) r) (hr : CallL X.K X.mg f r) (hg : Gl X x) (hm : X.mg x = none) (hv : bootBuiltins x = some (.type T))
    (ha : RA X (e :: es) fs) (hn : x ≠ "__name__" := by decide) (hdb : (x == ("__debug__" : Str)) = false := by decide) (he : starEach (e :: es) X.env = (false, eval e X.env) :: starEach es X.env := by rfl) (hpl : (backTo pos (starEach es X.env)).any (·.1) = false := by rfl) :
    RE X (.Call (.Name x p) (e :: es) [] pos) (fnA f fs) := fun W ok => pe_imp (pe_callTy hc hg hm hv (ha W ok) hn hdb he hpl) (many hr)

/-! ### tests -/
def OpB (K : PySem.W.Frag) (mg : Str → Option Value) (f : Sto → D → D → Option Bool) (r : R2) : Prop :=
  ∀ (g : Gh) (S : Sto) (H : Hp) (x y : D) (k : Bool) (v u : V) (Q : VK), SRel K mg g S H → Rep K mg g x v → Rep K mg g y u → f S x y = some k → Q (.bl k) H → r v u H Q
theorem re_bool {e : Expr} {t : ST} (h : ∀ W, Ok X W → ∃ te, PE X e te ∧ ∀ σ H (Q : VK), tTI X W t σ H (fun k H' => Q (.bl k) H') → te σ H Q) : RE X e (boolM t) := fun W ok => by
  obtain ⟨te, h1, h2⟩ := h W ok
  exact pe_imp h1 fun σ H Q ⟨g, S0, e, S, rel, q⟩ => h2 σ H Q ⟨g, S0, e, S, rel, q.bind.imp (fun _ t => t) fun g1 k e1 S1 σ1 H1 t1 l1 rel1 q1 => q1 g1 σ1 H1 t1 (.refl g1) rel1 _ .bl⟩
theorem twoB {W : WX} {fa fb : SE} {f : Sto → D → D → Option Bool} {r : R2} (hr : OpB X.K X.mg f r) : ∀ σ H (Q : Bool → Hp → Prop), tTI X W (cmpT f fa fb) σ H Q → ∀ Q' : VK, (∀ k H', Q k H' → Q' (.bl k) H') → tOp r (tI X W fa) (tI X W fb) σ H Q' := fun σ H Q ⟨g, S0, e, S, rel, q⟩ Q' hQ =>
  ⟨g, S0, e, S, rel, q.bind.imp (fun _ t => t) fun g1 x e1 S1 σ1 H1 t1 l1 rel1 q1 v rv => by
    subst t1
    exact ⟨g1, S0, e1, S1, rel1, q1.bind.imp (fun _ t => t) fun g2 y e2 S2 σ2 H2 t2 l2 rel2 q2 u ru => by
      subst t2
      obtain ⟨k, hk, q3⟩ := q2.opt
      exact hr g2 S2 H2 x y k v u Q' rel2.st (rv.mono l2) ru hk (hQ k H2 (q3 g2 _ H2 rfl (.refl g2) rel2))⟩⟩
theorem rt_cmp {a b : Expr} {op : CmpOp} {pos : Pos} {fa fb : SE} {f : Sto → D → D → Option Bool} {r : R2} (ho : OpR X (compareOp op) r) (hr : OpB X.K X.mg f r) (ha : RE X a fa) (hb : RE X b fb) (hm : behindInMarks op b = false) :
    RT X (.Compare a [op] [b] pos) (cmpT f fa fb) := fun W ok => pt_imp (pt_cmpR ho (ha W ok) (hb W ok) hm) fun σ H Q q => twoB hr σ H Q q _ fun k H' h => ⟨k, rfl, h⟩
theorem re_cmp {a b : Expr} {op : CmpOp} {pos : Pos} {fa fb : SE} {f : Sto → D → D → Option Bool} {r : R2} (ho : OpR X (compareOp op) r) (hr : OpB X.K X.mg f r) (ha : RE X a fa) (hb : RE X b fb) (hm : behindInMarks op b = false) :
    RE X (.Compare a [op] [b] pos) (boolM (cmpT f fa fb)) := re_bool fun W ok => ⟨_, pe_cmpR ho (ha W ok) (hb W ok) hm, fun σ H Q q => twoB hr σ H _ q Q fun k H' h => h⟩
theorem threeB {W : WX} {fa fb fc : SE} {f f' : Sto → D → D → Option Bool} {r r' : R2} (hr : OpB X.K X.mg f r) (hr' : OpB X.K X.mg f' r') : ∀ σ H (Q : Bool → Hp → Prop), tTI X W (chnT f f' fa fb fc) σ H Q → ∀ Q' : VK, (∀ k H', Q k H' → Q' (.bl k) H') →
    tChain r r' (tI X W fa) (tI X W fb) (tI X W fc) σ H Q' := fun σ H Q ⟨g, S0, e, S, rel, q⟩ Q' hQ =>
  ⟨g, S0, e, S, rel, q.bind.imp (fun _ t => t) fun g1 x e1 S1 σ1 H1 t1 l1 rel1 q1 v rv => by
    subst t1
    exact ⟨g1, S0, e1, S1, rel1, q1.bind.imp (fun _ t => t) fun g2 y e2 S2 σ2 H2 t2 l2 rel2 q2 u ru => by
      subst t2
      obtain ⟨k, hk, q3⟩ := q2.bind.opt
      refine hr g2 S2 H2 x y k v u _ rel2.st (rv.mono l2) ru hk ⟨k, rfl, ?_⟩
      have q4 := q3 g2 _ H2 rfl (.refl g2) rel2
      cases k with
      | false =>
        rw [if_neg Bool.false_ne_true] at q4 ⊢
        exact hQ _ _ (q4 g2 _ H2 rfl (.refl g2) rel2)
      | true =>
        rw [if_pos rfl] at q4 ⊢
        exact ⟨g2, S0, e2, S2, rel2, q4.bind.imp (fun _ t => t) fun g3 z e3 S3 σ3 H3 t3 l3 rel3 q5 w rw' => by
          subst t3
          obtain ⟨k', hk', q6⟩ := q5.opt
          exact hr' g3 S3 H3 y z k' u w Q' rel3.st (ru.mono l3) rw' hk' (hQ k' H3 (q6 g3 _ H3 rfl (.refl g3) rel3))⟩⟩⟩
theorem rt_chn {a b c : Expr} {op op' : CmpOp} {pos : Pos} {fa fb fc : SE} {f f' : Sto → D → D → Option Bool} {r r' : R2} (ho : OpR X (compareOp op) r) (hr : OpB X.K X.mg f r) (ho' : OpR X (compareOp op') r') (hr' : OpB X.K X.mg f' r') (ha : RE X a fa) (hb : RE X b fb) (hc : RE X c fc)
    (hm : lastMarks [op, op'] [b, c] = false := by with_unfolding_all rfl) : RT X (.Compare a [op, op'] [b, c] pos) (chnT f f' fa fb fc) := fun W ok => pt_imp (pt_chain ho ho' (ha W ok) (hb W ok) (hc W ok) hm) fun σ H Q q => threeB hr hr' σ H Q q _ fun k H' h => ⟨k, rfl, h⟩
theorem re_chn {a b c : Expr} {op op' : CmpOp} {pos : Pos} {fa fb fc : SE} {f f' : Sto → D → D → Option Bool} {r r' : R2} (ho : OpR X (compareOp op) r) (hr : OpB X.K X.mg f r) (ho' : OpR X (compareOp op') r') (hr' : OpB X.K X.mg f' r') (ha : RE X a fa) (hb : RE X b fb) (hc : RE X c fc)
    (hm : lastMarks [op, op'] [b, c] = false := by with_unfolding_all rfl) : RE X (.Compare a [op, op'] [b, c] pos) (boolM (chnT f f' fa fb fc)) := re_bool fun W ok => ⟨_, pe_chain ho ho' (ha W ok) (hb W ok) (hc W ok) hm, fun σ H Q q => threeB hr hr' σ H _ q Q fun k H' h => h⟩
theorem mkS_len (s : List Nat) : (mkS s).length = s.length := by show s.toArray.size = _; simp
theorem mkB_len (s : List Nat) : (mkB s).size = s.length := by simp [mkB]
theorem Reps.emp {K : PySem.W.Frag} {mg : Str → Option Value} {g : Gh} {ds : List D} {vs : List V} (r : Reps K mg g ds vs) : vs.isEmpty = ds.isEmpty := by
  cases ds with
  | nil => rw [r.inv0]; rfl
  | cons d ds =>
    obtain ⟨v, r', rfl, _⟩ := r.inv
    rfl
theorem Reps.of_lst {K : PySem.W.Frag} {mg : Str → Option Value} {g : Gh} {xs : List D} {v : V} (h : Rep K mg g (.lst xs) v) : ∃ a vs, v = .ref a ∧ g.F a = some (.lst vs) ∧ Reps K mg g xs vs := by
  cases h with
  | lst h n k => exact ⟨_, _, rfl, h, n, k⟩
theorem Reps.of_frz {K : PySem.W.Frag} {mg : Str → Option Value} {g : Gh} {xs : List D} {v : V} (h : Rep K mg g (.frz xs) v) : ∃ a vs, v = .ref a ∧ SqL K g.F a vs ∧ Reps K mg g xs vs := by
  cases h with
  | frz h n k => exact ⟨_, _, rfl, h, n, k⟩
theorem Reps.of_tup {K : PySem.W.Frag} {mg : Str → Option Value} {g : Gh} {xs : List D} {v : V} (h : Rep K mg g (.tup xs) v) : ∃ a vs, v = .ref a ∧ SqT K g.F a vs ∧ Reps K mg g xs vs := by
  cases h with
  | tup h n k => exact ⟨_, _, rfl, h, n, k⟩
theorem deref_ref (S : Sto) (i : Nat) : deref S (.ref i) = match S[i]? with | some (.lst _ xs) => .lst xs | _ => .ref i := rfl
/-- a value read where it stands: a list of the store as a tree, over the whole heap -/
inductive Now (K : PySem.W.Frag) (mg : Str → Option Value) (g : Gh) (H : Hp) : D → V → Prop
  | lst {a : Addr} {vs : List V} {ds : List D} : H a = some (.lst vs) → Reps K mg g ds vs → Now K mg g H (.lst ds) (.ref a)
  | rep {d : D} {v : V} : (∀ ds, d ≠ .lst ds) → Rep K mg g d v → Now K mg g H d v
theorem Now.of {K : PySem.W.Frag} {mg : Str → Option Value} {g : Gh} {S : Sto} {H : Hp} {d : D} {v : V} (r : SRel K mg g S H) (h : Rep K mg g d v) : Now K mg g H (deref S d) v := by
  cases d with
  | lst xs =>
    obtain ⟨a, vs, rfl, h1, h2⟩ := Reps.of_lst h
    exact .lst (r.sub _ _ h1) h2
  | ref i =>
    cases h with
    | ref hm =>
      rw [deref_ref]
      cases hs : S[i]? with
      | none => exact .rep (fun _ q => by cases q) (.ref hm)
      | some o =>
        cases o with
        | lst w xs =>
          obtain ⟨_, vs, h1, h2⟩ := r.ob _ _ _ hs hm
          exact .lst h1 h2
        | dead => exact .rep (fun _ q => by cases q) (.ref hm)
        | ins c fs => exact .rep (fun _ q => by cases q) (.ref hm)
  | _ => exact .rep (fun _ q => by cases q) h
theorem sub_SqL {K : PySem.W.Frag} {mg : Str → Option Value} {g : Gh} {S : Sto} {H : Hp} {a : Addr} {vs : List V} (r : SRel K mg g S H) (h : SqL K g.F a vs) : SqL K H a vs := ex_SqL r.sub h
theorem sub_SqT {K : PySem.W.Frag} {mg : Str → Option Value} {g : Gh} {S : Sto} {H : Hp} {a : Addr} {vs : List V} (r : SRel K mg g S H) (h : SqT K g.F a vs) : SqT K H a vs := ex_SqT r.sub h
theorem truth_ok {K : PySem.W.Frag} {mg : Str → Option Value} {g : Gh} {S : Sto} {H : Hp} {d : D} {v : V} {k : Bool} (r : SRel K mg g S H) (h : Rep K mg g d v) (e : truth S d = some k) : TruV K v H k := by
  have n := Now.of r h
  unfold truth at e
  revert e n
  generalize deref S d = d'
  intro e n
  cases n with
  | @lst a vs ds h1 h2 =>
    cases e
    exact .inl ⟨vs, SqL.of h1, by rw [h2.emp]⟩
  | rep nl h =>
    cases h with
    | non => cases e; rfl
    | bl => cases e; rfl
    | int => cases e; rfl
    | @str s =>
      have e' : (if s.length ≤ line then some (s.length != 0) else none) = some k := e
      split at e'
      · rename_i hl
        cases e'
        refine ⟨by rw [mkS_len, ← line_eq]; exact hl, ?_⟩
        rw [mkS_len]; cases s <;> simp <;> omega
      · cases e'
    | @byt s hb =>
      have e' : (if s.length ≤ line then some (s.length != 0) else none) = some k := e
      split at e'
      · rename_i hl
        cases e'
        refine ⟨by rw [mkB_len, ← line_eq]; exact hl, ?_⟩
        rw [mkB_len]; cases s <;> simp <;> omega
      · cases e'
    | lst h1 h2 h3 => exact absurd rfl (nl _)
    | @tup a vs ds h1 h2 h3 =>
      cases e
      exact .inr (.inl ⟨vs, sub_SqT r h1, by rw [(Reps.mk h2 h3 : Reps K mg g ds vs).emp]⟩)
    | _ => cases e
theorem rt_tst {a : Expr} {fa : SE} (ha : RE X a fa) (he : ∀ whole, isTrue a X.env whole = (do let v ← whole; standAt a.pos; holding [v] (truthy v)) := by intro _; rfl) : RT X a (tstM fa) := fun W ok => pt_imp (pt_truth (ha W ok) he) fun σ H Q ⟨g, S0, e, S, rel, q⟩ =>
  ⟨g, S0, e, S, rel, q.bind.imp (fun _ t => t) fun g1 x e1 S1 σ1 H1 t1 l1 rel1 q1 v rv => by
    obtain ⟨k, hk, q3⟩ := q1.opt
    exact ⟨k, truth_ok rel1.st rv hk, q3 g1 σ1 H1 t1 (.refl g1) rel1⟩⟩
theorem rt_not {a : Expr} {pos : Pos} {t : ST} (h : RT X a t) : RT X (.UnaryOp .Not a pos) (notT t) := fun W ok => pt_imp (pt_not (h W ok)) fun σ H Q ⟨g, S0, e, S, rel, q⟩ =>
  ⟨g, S0, e, S, rel, q.bind.imp (fun _ t => t) fun g1 k e1 S1 σ1 H1 t1 l1 rel1 q1 => q1 g1 σ1 H1 t1 (.refl g1) rel1⟩
theorem rt_w {a : Expr} {t : ST} (h : RW X a t) : RT X a t := fun W ok => (h W ok).pt
theorem rw_and1 {a : Expr} {pos : Pos} {t : ST} (h : RT X a t) : RW X (.BoolOp .And [a] pos) t := fun W ok => pw_and1 (h W ok)
theorem rw_or1 {a : Expr} {pos : Pos} {t : ST} (h : RT X a t) : RW X (.BoolOp .Or [a] pos) t := fun W ok => pw_or1 (h W ok)
theorem rw_and {a b : Expr} {rest : List Expr} {pos : Pos} {t u : ST} (h : RT X a t) (h2 : RW X (.BoolOp .And (b :: rest) pos) u) : RW X (.BoolOp .And (a :: b :: rest) pos) (andT t u) := fun W ok => pw_imp (pw_and (h W ok) (h2 W ok)) fun σ H Q ⟨g, S0, e, S, rel, q⟩ =>
  ⟨g, S0, e, S, rel, q.bind.imp (fun _ t => t) fun g1 k e1 S1 σ1 H1 t1 l1 rel1 q1 => by
    subst t1
    cases k with
    | true => rw [if_pos rfl] at q1 ⊢; exact ⟨g1, S0, e1, S1, rel1, q1⟩
    | false => rw [if_neg Bool.false_ne_true] at q1 ⊢; exact q1 g1 _ H1 rfl (.refl g1) rel1⟩
theorem rw_or {a b : Expr} {rest : List Expr} {pos : Pos} {t u : ST} (h : RT X a t) (h2 : RW X (.BoolOp .Or (b :: rest) pos) u) : RW X (.BoolOp .Or (a :: b :: rest) pos) (orT t u) := fun W ok => pw_imp (pw_or (h W ok) (h2 W ok)) fun σ H Q ⟨g, S0, e, S, rel, q⟩ =>
  ⟨g, S0, e, S, rel, q.bind.imp (fun _ t => t) fun g1 k e1 S1 σ1 H1 t1 l1 rel1 q1 => by
    subst t1
    cases k with
    | true => rw [if_pos rfl] at q1 ⊢; exact q1 g1 _ H1 rfl (.refl g1) rel1
    | false => rw [if_neg Bool.false_ne_true] at q1 ⊢; exact ⟨g1, S0, e1, S1, rel1, q1⟩⟩
theorem re_ifE {c a b : Expr} {pos : Pos} {t : ST} {fa fb : SE} (hc : RT X c t) (ha : RE X a fa) (hb : RE X b fb) : RE X (.IfExp c a b pos) (ifE t fa fb) := fun W ok => pe_imp (pe_ifExp (hc W ok) (ha W ok) (hb W ok)) fun σ H Q ⟨g, S0, e, S, rel, q⟩ =>
  ⟨g, S0, e, S, rel, q.bind.imp (fun _ t => t) fun g1 k e1 S1 σ1 H1 t1 l1 rel1 q1 => by
    subst t1
    cases k with
    | true => rw [if_pos rfl] at q1 ⊢; exact ⟨g1, S0, e1, S1, rel1, q1⟩
    | false => rw [if_neg Bool.false_ne_true] at q1 ⊢; exact ⟨g1, S0, e1, S1, rel1, q1⟩⟩
theorem Post.bool {K : PySem.W.Frag} {mg : Str → Option Value} {W : WX} {S0 : Sto} {T : L2.St → Prop} {g : Gh} {t : ST} {b : Nat} {e : Env} {S : Sto} {Φ : Gh → Bool → Env → Sto → L2.St → Hp → Prop} (h : Post K mg W S0 T g (t b e S) Φ) :
    Post K mg W S0 T g (boolM t b e S) (fun g' d e S σ H => ∀ v, Rep K mg g' d v → ∃ k, v = .bl k ∧ Φ g' k e S σ H) := by
  unfold boolM
  revert h
  cases t b e S with
  | stuck => exact fun h => h
  | exc c fs e1 S1 => exact fun h => h
  | ok k e1 S1 =>
    intro h g1 σ1 H1 t1 l1 rel1 v rv
    cases rv
    exact ⟨k, rfl, h g1 σ1 H1 t1 l1 rel1⟩
/-- not a, as a value -/
theorem re_not {a : Expr} {pos : Pos} {t : ST} (h : RE X a (boolM t)) : RE X (.UnaryOp .Not a pos) (boolM (notT t)) := re_bool fun W ok => ⟨_, pe_not (h W ok), fun σ H Q ⟨g, S0, e, S, rel, q⟩ =>
  ⟨g, S0, e, S, rel, (Post.bool (Post.bind q)).imp (fun _ t => t) fun g1 d e1 S1 σ1 H1 t1 l1 rel1 q1 v rv => by
    obtain ⟨k, rfl, q2⟩ := q1 v rv
    exact ⟨k, rfl, q2 g1 σ1 H1 t1 (.refl g1) rel1⟩⟩⟩

/-! ### statements -/
theorem rss_nil : RSs X [] nxM := fun W ok => pss_imp pss_nil fun D σ H ⟨g, S0, e, S, rel, q⟩ => q g σ H trivial (.refl g) rel
theorem rss_one {s : Stmt} {f : SS} (h : RS X s f) : RSs X [s] f := fun W ok => pss_one (h W ok)
theorem rss_cons {s : Stmt} {ss : List Stmt} {f fs : SS} (h : RS X s f) (hr : RSs X ss fs) : RSs X (s :: ss) (seqM f fs) := fun W ok => pss_imp (pss_cons (h W ok) (hr W ok)) fun D σ H ⟨g, S0, e, S, rel, q⟩ =>
  ⟨g, S0, e, S, rel, q.bind.imp (fun _ t => t) fun g1 fl e1 S1 σ1 H1 t1 l1 rel1 q1 => by
    cases fl with
    | nx => exact ⟨g1, S0, e1, S1, rel1, q1⟩
    | ret d => exact q1 g1 σ1 H1 trivial (.refl g1) rel1
    | bk => exact q1 g1 σ1 H1 trivial (.refl g1) rel1
    | ct => exact q1 g1 σ1 H1 trivial (.refl g1) rel1⟩
theorem rs_pass {pos : Pos} : RS X (.Pass pos) nxM := fun W ok => ps_imp ps_pass fun D σ H ⟨g, S0, e, S, rel, q⟩ => q g σ H trivial (.refl g) rel
theorem rs_brk {pos : Pos} : RS X (.Break pos) brkM := fun W ok => ps_imp ps_break fun D σ H ⟨g, S0, e, S, rel, q⟩ => q g σ H trivial (.refl g) rel
theorem rs_cnt {pos : Pos} : RS X (.Continue pos) cntM := fun W ok => ps_imp ps_continue fun D σ H ⟨g, S0, e, S, rel, q⟩ => q g σ H trivial (.refl g) rel
theorem rs_expr {e : Expr} {pos : Pos} {f : SE} (h : RE X e f) (hs : swapsWith e none pos.line X.env = pure false := by rfl) : RS X (.Expr e pos) (exprM f) := fun W ok => ps_imp (ps_expr (h W ok) hs) fun D σ H ⟨g, S0, e, S, rel, q⟩ =>
  ⟨g, S0, e, S, rel, q.bind.imp (fun _ t => trivial) fun g1 d e1 S1 σ1 H1 t1 l1 rel1 q1 v rv => by
    subst t1
    exact q1 g1 _ H1 trivial (.refl g1) rel1⟩
theorem rs_ret {e : Expr} {pos : Pos} {f : SE} (h : RE X e f) : RS X (.Return (some e) pos) (retM f) := fun W ok => ps_imp (ps_ret (h W ok)) fun D σ H ⟨g, S0, e, S, rel, q⟩ =>
  ⟨g, S0, e, S, rel, q.bind.imp (fun _ t => trivial) fun g1 d e1 S1 σ1 H1 t1 l1 rel1 q1 v rv => q1 g1 σ1 H1 trivial (.refl g1) rel1 v rv⟩
theorem rs_retN {pos : Pos} : RS X (.Return none pos) retN := fun W ok => ps_imp ps_retN fun D σ H ⟨g, S0, e, S, rel, q⟩ => q g σ H trivial (.refl g) rel _ .non
theorem rs_if {c : Expr} {a b : List Stmt} {pos : Pos} {t : ST} {fa fb : SS} (hc : RT X c t) (ha : RSs X a fa) (hb : RSs X b fb) : RS X (.If c a b pos) (ifM t fa fb) := fun W ok => ps_imp (ps_if (hc W ok) (ha W ok) (hb W ok)) fun D σ H ⟨g, S0, e, S, rel, q⟩ =>
  ⟨g, S0, e, S, rel, q.bind.imp (fun _ t => trivial) fun g1 k e1 S1 σ1 H1 t1 l1 rel1 q1 => by
    subst t1
    cases k with
    | true => rw [if_pos rfl] at q1 ⊢; exact ⟨g1, S0, e1, S1, rel1, q1⟩
    | false => rw [if_neg Bool.false_ne_true] at q1 ⊢; exact ⟨g1, S0, e1, S1, rel1, q1⟩⟩
theorem rs_doc {x : Str} {j : Nat} {pos pos' : Pos} : RS X (.Expr (.Constant (.str x) j pos) pos') nxM := fun W ok => ps_imp ps_doc fun D σ H ⟨g, S0, e, S, rel, q⟩ => q g σ H trivial (.refl g) rel

/-! ### targets -/
theorem rg_name {i : Nat} {x : Str} {pos : Pos} (hN : X.N.Nodup) (hi : X.N[i]? = some x := by rfl) (hx : Loc X.env.scope x := by first | exact Or.inl rfl | exact Or.inr rfl) (hf : X.fn x = true ∨ X.env.scope.names.lookup x = some .local := by first | exact .inl rfl | exact .inr rfl | assumption) : RG X (.Name x pos) (gnM i) :=
  fun W ok => pg_imp (pg_name hN hi hx hf) fun v σ H Q ⟨g, S0, e, S, d, rel, rv, q⟩ => by
  unfold gnM at q
  by_cases hl : i < e.length
  · rw [if_pos hl] at q
    exact q g _ H trivial (.refl g) (rel.slot hl rv)
  · rw [if_neg hl] at q
    exact q.elim
theorem rgs_nil : RGs X [] gsNil := fun W ok => pgs_imp pgs_nil fun v σ H Q ⟨g, S0, e, S, ds, rel, rv, q⟩ => by
  unfold gsNil at q
  cases ds with
  | nil => exact ⟨rv.inv0, q g σ H trivial (.refl g) rel⟩
  | cons d ds => exact q.elim
theorem rgs_cons {t : Expr} {ts : List Expr} {f : SG} {fs : Nat → List D → Env → Sto → R Unit} (h : RG X t f) (hr : RGs X ts fs) (hs : (assignEach (t :: ts) X.env).map (·.2) = assign t X.env :: (assignEach ts X.env).map (·.2) := by rfl) : RGs X (t :: ts) (gsCons f fs) :=
  fun W ok => pgs_imp (pgs_cons (h W ok) (hr W ok) hs) fun vs σ H Q ⟨g, S0, e, S, ds, rel, rv, q⟩ => by
  unfold gsCons at q
  cases ds with
  | nil => exact q.elim
  | cons d ds =>
    obtain ⟨v, r', rfl, r1, r2⟩ := rv.inv
    exact ⟨v, r', rfl, g, S0, e, S, d, rel, r1, q.bind.imp (fun _ t => t) fun g1 _ e1 S1 σ1 H1 t1 l1 rel1 q1 => ⟨g1, S0, e1, S1, ds, rel1, r2.mono l1, q1⟩⟩
theorem rg_tup {es : List Expr} {k n : Nat} {pos : Pos} {fs : Nat → List D → Env → Sto → R Unit} (h : RGs X es fs) (hc : X.calm = true := by rfl) (hn : (assignEach es X.env).length = n := by rfl) (hst : (assignEach es X.env).findIdx? (·.1) = none := by rfl) :
    RG X (.Tuple es k pos) (gtM n fs) := fun W ok => pg_imp (pg_tup hc (h W ok) hn hst) fun v σ H Q ⟨g, S0, e, S, d, rel, rv, q⟩ => by
  unfold gtM at q
  cases d with
  | tup xs =>
    obtain ⟨a, vs, rfl, h1, h2⟩ := Reps.of_tup rv
    dsimp only at q
    by_cases hl : xs.length = n
    · rw [if_pos hl] at q
      exact ⟨a, vs, rfl, sub_SqT rel.st h1, h2.len.trans hl, g, S0, e, S, xs, rel, h2, q⟩
    · rw [if_neg hl] at q
      exact q.elim
  | _ => exact q.elim
theorem rs_asg {tg e : Expr} {pos : Pos} {f : SE} {h : SG} (he : RE X e f) (hg : RG X tg h) (hs : swapsWithSole [tg] e pos.line X.env = pure false := by rfl) (hw : swappedStores [tg] e X.env = pure none := by rfl) (h1 : (assignEach [tg] X.env).map (·.2) = [assign tg X.env] := by rfl) : RS X (.Assign [tg] e pos) (asgM f h) :=
  fun W ok => ps_imp (ps_asg (he W ok) (hg W ok) hs hw h1) fun D σ H ⟨g, S0, e, S, rel, q⟩ =>
  ⟨g, S0, e, S, rel, q.bind.imp (fun _ t => trivial) fun g1 d e1 S1 σ1 H1 t1 l1 rel1 q1 v rv => by
    subst t1
    exact ⟨g1, S0, e1, S1, d, rel1, rv, q1.bind.imp (fun _ t => t) fun g2 _ e2 S2 σ2 H2 t2 l2 rel2 q2 => q2 g2 σ2 H2 trivial (.refl g2) rel2⟩⟩
end
end Mir
end

/-! MirLoop -/
section
set_option Elab.async false
set_option linter.all false
set_option maxRecDepth 100000
/-! MirLoop: loops, defs, calls. -/
namespace Mir
open PySem L2

section
variable {X : Cx}
/-! ### while -/
theorem rs_while {c : Expr} {body : List Stmt} {pos : Pos} {t : ST} {f : SS} (hc : RT X c t) (hb : RSs X body f) : RS X (.While c body [] pos) (whileM t f) := fun W ok => ps_imp (ps_while ok.po (hc W ok) (hb W ok)) fun D σ H ⟨g, S0, e, S, rel, q⟩ => by
  have go : ∃ n, whileN t f S0.length n e S ≠ .stuck ∧ whileM t f S0.length e S = whileN t f S0.length n e S := by
    unfold whileM at q
    split at q
    · rename_i h
      exact ⟨_, Classical.choose_spec h, whileM_of (Classical.choose_spec h)⟩
    · exact q.elim
  obtain ⟨n, hn, he⟩ := go
  rw [he] at q
  clear he hn
  refine ⟨fun m σ H => ∃ g S0 e S, Rel X.K X.mg g S0 e S σ H ∧ Post X.K X.mg W S0 (fun _ => True) g (whileN t f S0.length m e S) (EndOf X.K X.mg D), ⟨n, g, S0, e, S, rel, q⟩, ?_⟩
  rintro m σ H ⟨g, S0, e, S, rel, q⟩
  cases m with
  | zero => exact q.elim
  | succ m =>
    refine ⟨g, S0, e, S, rel, (show Post X.K X.mg W S0 (fun _ => True) g ((t S0.length e S).bind fun k e S => if k = true then (f S0.length e S).bind fun fl e S => (match fl with
      | .nx => whileN t f S0.length m e S
      | .ct => whileN t f S0.length m e S
      | .bk => .ok .nx e S
      | .ret d => .ok (.ret d) e S) else .ok .nx e S) _ from q).bind.imp (fun _ t => trivial) fun g1 k e1 S1 σ1 H1 t1 l1 rel1 q1 => ?_⟩
    subst t1
    cases k with
    | false =>
      rw [if_neg Bool.false_ne_true] at q1 ⊢
      exact q1 g1 _ H1 trivial (.refl g1) rel1
    | true =>
      rw [if_pos rfl] at q1 ⊢
      refine ⟨fun σ' H' => ∃ g S0 e S, Rel X.K X.mg g S0 e S σ' H' ∧ Post X.K X.mg W S0 (fun _ => True) g (whileN t f S0.length m e S) (EndOf X.K X.mg D), fun σ' H' h => ⟨m, Nat.lt_succ_self m, h⟩, g1, S0, e1, S1, rel1, q1.bind.imp (fun _ t => t) fun g2 fl e2 S2 σ2 H2 t2 l2 rel2 q2 => ?_⟩
      cases fl with
      | nx => exact ⟨g2, S0, e2, S2, rel2, q2⟩
      | ct => exact ⟨g2, S0, e2, S2, rel2, q2⟩
      | bk => exact q2 g2 σ2 H2 trivial (.refl g2) rel2
      | ret d => exact q2 g2 σ2 H2 trivial (.refl g2) rel2

/-! ### what a for walks: the items are known ahead -/
structure Walks (K : PySem.W.Frag) (mg : Str → Option Value) (J : It) (xs : List D) (g : Gh) : Prop where
  go : ∀ (i : Nat) d g' S H, xs[i]? = some d → g.le g' → SRel K mg g' S H → J.go i H
  yld : ∀ (i : Nat) d g' S H x H', xs[i]? = some d → g.le g' → SRel K mg g' S H → J.yld i H x H' → ∃ g'', Ext K mg g' H g'' H' ∧ Rep K mg g'' d x
  stop : ∀ g' S H, g.le g' → SRel K mg g' S H → J.stop xs.length H
theorem Walks.le {K : PySem.W.Frag} {mg : Str → Option Value} {J : It} {xs : List D} {g g' : Gh} (w : Walks K mg J xs g) (l : g.le g') : Walks K mg J xs g' :=
  ⟨fun i d g2 S H h a b => w.go i d g2 S H h (l.trans a) b, fun i d g2 S H x H' h a b c => w.yld i d g2 S H x H' h (l.trans a) b c, fun g2 S H a b => w.stop g2 S H (l.trans a) b⟩
def tII (X : Cx) (W : WX) (f : SA) : TI := fun σ H R => ∃ g S0 e S, Rel X.K X.mg g S0 e S σ H ∧ Post X.K X.mg W S0 (· = σ) g (f S0.length e S) (fun g' xs e' S' _ H' => ∀ J, Walks X.K X.mg J xs g' → R J H')
/-- rule of an iterable; tg: the target -/
def RI (X : Cx) (tg iter : Expr) (f : SA) : Prop := ∀ W, Ok X W → PI X tg iter (tII X W f)
theorem pi_imp {tg e : Expr} {t t' : TI} (h : PI X tg e t) (k : ∀ σ H Q, t' σ H Q → t σ H Q) : PI X tg e t' := ⟨fun pins s σ H R I q => h.run pins s σ H R I (k σ H R q)⟩
theorem rs_for {tg iter : Expr} {body : List Stmt} {pos : Pos} {fi : SA} {fg : SG} {fb : SS} (hi : RI X tg iter fi) (hg : RG X tg fg) (hb : RSs X body fb) (hc : X.calm = true := by rfl) (hs : ∀ x, foldedSetIterable iter X.env x = pure x := by intro _; rfl) :
    RS X (.For tg iter body [] pos) (forM fi fg fb) := fun W ok => ps_imp (ps_for ok.po hc (hi W ok) (hg W ok) (hb W ok) hs) fun D σ H ⟨g, S0, e, S, rel, q⟩ =>
  ⟨g, S0, e, S, rel, q.bind.imp (fun _ t => trivial) fun g1 xs e1 S1 σ1 H1 t1 l1 rel1 q1 J wk => by
    subst t1
    refine ⟨fun i m σ H => m = xs.length - i ∧ i ≤ xs.length ∧ ∃ g S0 e S, g1.le g ∧ Rel X.K X.mg g S0 e S σ H ∧ Post X.K X.mg W S0 (fun _ => True) g (loopM fg fb S0.length (xs.drop i) e S) (EndOf X.K X.mg D),
      ⟨xs.length, by simp, Nat.zero_le _, g1, S0, e1, S1, .refl g1, rel1, q1⟩, ?_⟩
    rintro i m σ H ⟨rfl, hi, g, S0, e, S, l, rel, q⟩
    by_cases hlt : i < xs.length
    · have hd : xs.drop i = xs[i] :: xs.drop (i + 1) := List.drop_eq_getElem_cons hlt
      have hx : xs[i]? = some xs[i] := List.getElem?_eq_getElem hlt
      rw [hd] at q
      refine .inr ⟨wk.go i _ g S H hx l rel.st, fun σ' H' => ∃ g S0 e S, g1.le g ∧ Rel X.K X.mg g S0 e S σ' H' ∧ Post X.K X.mg W S0 (fun _ => True) g (loopM fg fb S0.length (xs.drop (i + 1)) e S) (EndOf X.K X.mg D),
        fun σ' H' h => ⟨xs.length - (i + 1), by omega, rfl, hlt, h⟩, fun x H' y => ?_⟩
      obtain ⟨g2, x2, r2⟩ := wk.yld i _ g S H x H' hx l rel.st y
      refine ⟨g2, S0, e, S, xs[i], rel.ext x2, r2, ((show Post X.K X.mg W S0 (fun _ => True) g ((fg S0.length xs[i] e S).bind _) _ from q).le x2.le).bind.imp (fun _ t => t) fun g3 _ e3 S3 σ3 H3 t3 l3 rel3 q3 => ?_⟩
      refine ⟨g3, S0, e3, S3, rel3, q3.bind.imp (fun _ t => t) fun g4 fl e4 S4 σ4 H4 t4 l4 rel4 q4 => ?_⟩
      have lg : g1.le g4 := ((l.trans x2.le).trans l3).trans l4
      cases fl with
      | nx => exact ⟨g4, S0, e4, S4, lg, rel4, q4⟩
      | ct => exact ⟨g4, S0, e4, S4, lg, rel4, q4⟩
      | bk => exact q4 g4 σ4 H4 trivial (.refl g4) rel4
      | ret d => exact q4 g4 σ4 H4 trivial (.refl g4) rel4
    · have e' : i = xs.length := by omega
      subst e'
      rw [List.drop_length] at q
      exact .inl ⟨wk.stop g S H l rel.st, q g σ H trivial (.refl g) rel⟩⟩

theorem walks_list {K : PySem.W.Frag} {mg : Str → Option Value} {g : Gh} {a : Addr} {vs : List V} {xs : List D} (hs : SqL K g.F a vs) (hr : Reps K mg g xs vs) : Walks K mg (Itl K a) xs g := by
  refine ⟨fun i d g' S H h l r => ?_, fun i d g' S H x H' h l r y => ?_, fun g' S H l r => ?_⟩
  · obtain ⟨v, hv, _⟩ := hr.get h
    exact ⟨vs, v, sub_SqL r (ex_SqL l.F hs), hv⟩
  · obtain ⟨v, hv, rv⟩ := hr.get h
    obtain ⟨rfl, y⟩ := y
    have := y vs (sub_SqL r (ex_SqL l.F hs))
    rw [hv] at this; cases this
    exact ⟨g', .refl g' _, rv.mono l⟩
  · exact ⟨vs, sub_SqL r (ex_SqL l.F hs), by rw [hr.len]; exact Nat.le_refl _⟩
theorem walks_tup {K : PySem.W.Frag} {mg : Str → Option Value} {g : Gh} {a : Addr} {vs : List V} {xs : List D} (hs : SqT K g.F a vs) (hr : Reps K mg g xs vs) : Walks K mg (Itt K a) xs g := by
  refine ⟨fun i d g' S H h l r => ?_, fun i d g' S H x H' h l r y => ?_, fun g' S H l r => ?_⟩
  · obtain ⟨v, hv, _⟩ := hr.get h
    exact ⟨vs, v, sub_SqT r (ex_SqT l.F hs), hv⟩
  · obtain ⟨v, hv, rv⟩ := hr.get h
    obtain ⟨rfl, y⟩ := y
    have := y vs (sub_SqT r (ex_SqT l.F hs))
    rw [hv] at this; cases this
    exact ⟨g', .refl g' _, rv.mono l⟩
  · exact ⟨vs, sub_SqT r (ex_SqT l.F hs), by rw [hr.len]; exact Nat.le_refl _⟩
/-- a list or a tuple -/
def iSeq (K : PySem.W.Frag) (tl : TE) : TI := fun σ H R => tl σ H fun x H1 => ∃ a, x = .ref a ∧ (((∃ xs, SqL K H1 a xs) ∧ R (Itl K a) H1) ∨ ((∃ xs, SqT K H1 a xs) ∧ R (Itt K a) H1))
theorem pi_seq {tg l : Expr} {tl : TE} (hl : PE X l tl) : PI X tg l (iSeq X.K tl) := by
  refine ⟨fun pins s σ H R I h => ?_⟩
  refine thn (hl.run pins s σ H _ I h) fun v s1 ⟨x, H1, I1, r1, q1⟩ => ?_
  obtain ⟨a, e, q1⟩ := q1
  subst e
  cases r1
  rcases q1 with ⟨⟨xs, hq⟩, q⟩ | ⟨⟨xs, hq⟩, q⟩
  · obtain ⟨its, rv, p, hz⟩ := I1.list hq
    refine wpAny_pyIter_list p.isList ?_
    refine ⟨s1.heap.objs.size, [s1.heap.objs.size], _, _, H1, rfl, I1.kept (t' := s1.toks) fun b o e => Heap.get?_push_of_some _ e, turn_list a _, ⟨_, Heap.get?_push_size _ rfl, rfl, rfl⟩, fun b hb => ?_, q⟩
    have e : b = s1.heap.objs.size := by simpa using hb
    subst e
    exact I1.fpOk (Nat.le_refl _) (I1.hok.fresh (Nat.le_refl _))
  · obtain ⟨its, rv, p, hz⟩ := I1.tuple hq
    refine wpAny_pyIter_tuple (show s1.heap.IsTuple a its.toArray from p) ?_
    refine ⟨s1.heap.objs.size, [s1.heap.objs.size], _, _, H1, rfl, I1.kept (t' := s1.toks) fun b o e => Heap.get?_push_of_some _ e, turn_tuple a _, ⟨_, Heap.get?_push_size _ rfl, rfl, rfl⟩, fun b hb => ?_, q⟩
    have e : b = s1.heap.objs.size := by simpa using hb
    subst e
    exact I1.fpOk (Nat.le_refl _) (I1.hok.fresh (Nat.le_refl _))
theorem ri_seq {tg l : Expr} {f : SE} (h : RE X l f) : RI X tg l (itemsM f) := fun W ok => pi_imp (pi_seq (h W ok)) fun σ H R ⟨g, S0, e, S, rel, q⟩ =>
  ⟨g, S0, e, S, rel, q.bind.imp (fun _ t => t) fun g1 d e1 S1 σ1 H1 t1 l1 rel1 q1 v rv => by
    cases d with
    | lst xs =>
      obtain ⟨a, vs, rfl, h1, h2⟩ := Reps.of_lst rv
      have hs : SqL X.K g1.F a vs := SqL.of h1
      exact ⟨a, rfl, .inl ⟨⟨vs, sub_SqL rel1.st hs⟩, q1 g1 σ1 H1 t1 (.refl g1) rel1 _ (walks_list hs h2)⟩⟩
    | frz xs =>
      obtain ⟨a, vs, rfl, h1, h2⟩ := Reps.of_frz rv
      exact ⟨a, rfl, .inl ⟨⟨vs, sub_SqL rel1.st h1⟩, q1 g1 σ1 H1 t1 (.refl g1) rel1 _ (walks_list h1 h2)⟩⟩
    | tup xs =>
      obtain ⟨a, vs, rfl, h1, h2⟩ := Reps.of_tup rv
      exact ⟨a, rfl, .inr ⟨⟨vs, sub_SqT rel1.st h1⟩, q1 g1 σ1 H1 t1 (.refl g1) rel1 _ (walks_tup h1 h2)⟩⟩
    | _ => exact q1.elim⟩
/-- range(n), range(a, b) -/
theorem walks_rng {K : PySem.W.Frag} {mg : Str → Option Value} {g : Gh} {lo n : Int} {xs : List D} (h : rngI lo n = some xs) : (-(2 ^ 62) ≤ lo ∧ lo < 2 ^ 62) ∧ (-(2 ^ 62) ≤ n ∧ n < 2 ^ 62) ∧ Walks K mg (Itr lo (n - lo).toNat) xs g := by
  unfold rngI at h
  split at h
  · rename_i hb
    cases h
    refine ⟨hb.1, hb.2, fun k d g' S H h l r => ?_, fun k d g' S H x H' h l r y => ?_, fun g' S H l r => ?_⟩
    · have := (List.getElem?_eq_some_iff.mp h).1
      rw [List.length_map, List.length_range] at this
      exact this
    · have hk := (List.getElem?_eq_some_iff.mp h).1
      rw [List.length_map, List.length_range] at hk
      rw [List.getElem?_map, List.getElem?_range hk] at h
      cases h
      obtain ⟨rfl, rfl⟩ := y
      exact ⟨g', .refl g' _, .int⟩
    · show (n - lo).toNat ≤ _
      rw [List.length_map, List.length_range]
      exact Nat.le_refl _
  · cases h
theorem ri_range1 {tg a : Expr} {p pos : Pos} {fa : SE} (hg : Gl X "range") (hm : X.mg "range" = none) (h : RE X a fa) (hs : starEach [a] X.env = [(false, eval a X.env)] := by rfl) : RI X tg (.Call (.Name "range" p) [a] [] pos) (rng1 fa) := fun W ok =>
  pi_imp (pi_range1 hg hm (pa_cons (h W ok) pa_nil hs) hs) fun σ H R ⟨g, S0, e, S, rel, q⟩ =>
  ⟨g, S0, e, S, rel, q.bind.imp (fun _ t => t) fun g1 d e1 S1 σ1 H1 t1 l1 rel1 q1 v rv => by
    cases d with
    | int n =>
      obtain ⟨xs, hx, q2⟩ := Post.opt q1
      cases rv
      obtain ⟨h1, h2, h3⟩ := walks_rng (K := X.K) (mg := X.mg) (g := g1) hx
      rw [Int.sub_zero] at h3
      exact ⟨n, rfl, h2.1, h2.2, q2 g1 σ1 H1 t1 (.refl g1) rel1 _ h3⟩
    | _ => exact q1.elim⟩
theorem ri_range2 {tg a b : Expr} {p pos : Pos} {fa fb : SE} (hg : Gl X "range") (hm : X.mg "range" = none) (h : RE X a fa) (h2 : RE X b fb) (hs : starEach [a, b] X.env = [(false, eval a X.env), (false, eval b X.env)] := by rfl) (hs2 : starEach [b] X.env = [(false, eval b X.env)] := by rfl) :
    RI X tg (.Call (.Name "range" p) [a, b] [] pos) (rng2 fa fb) := fun W ok =>
  pi_imp (pi_range2 hg hm (pa_cons (h W ok) (pa_cons (h2 W ok) pa_nil hs2) (by rw [hs, hs2])) hs hs2) fun σ H R ⟨g, S0, e, S, rel, q⟩ =>
  ⟨g, S0, e, S, rel, q.bind.imp (fun _ t => t) fun g1 d e1 S1 σ1 H1 t1 l1 rel1 q1 v rv => by
    subst t1
    exact ⟨g1, S0, e1, S1, rel1, q1.bind.imp (fun _ t => t) fun g2 d' e2 S2 σ2 H2 t2 l2 rel2 q2 u ru => by
      cases d with
      | int lo =>
        cases d' with
        | int n =>
          obtain ⟨xs, hx, q3⟩ := Post.opt q2
          cases rv
          cases ru
          obtain ⟨h1, h2, h3⟩ := walks_rng (K := X.K) (mg := X.mg) (g := g2) hx
          exact ⟨lo, n, rfl, ⟨h1.1, h1.2, h2.1, h2.2⟩, q3 g2 σ2 H2 t2 (.refl g2) rel2 _ h3⟩
        | _ => exact q2.elim
      | _ => exact q2.elim⟩⟩

/-! ### defs -/
/-- a def's promise, by its meaning; bs: what of the store is the caller's -/
def spI (K : PySem.W.Frag) (mg : Str → Option Value) (n : Nat) (bs : Sto → Sto) (m : SF) : Sp := fun vs H Q E => ∃ g S ds, ds.length = n ∧ SRel K mg g S H ∧ Reps K mg g ds vs ∧ (match m ds S with
  | .ok d _ S' => ∀ g' H' v, g.le g' → SRel K mg g' S' H' → KFr (bs S) S' → Rep K mg g' d v → Q v H'
  | .exc c fs _ S' => ∀ g' H' cls d, g.le g' → SRel K mg g' S' H' → KFr (bs S) S' → XRep K mg g' c fs cls d → E cls d H'
  | .stuck => False)
theorem spI_len {K : PySem.W.Frag} {mg : Str → Option Value} {n : Nat} {bs : Sto → Sto} {m : SF} (vs : List V) (H : Hp) (Q : VK) (E : XK) (h : spI K mg n bs m vs H Q E) : vs.length = n := by
  obtain ⟨g, S, ds, hn, _, hr, _⟩ := h
  rw [hr.len, hn]
theorem limL_mono {n m : Nat} (h : n ≤ m) : ∀ (ds : List D), (∀ d ∈ ds, d.lim n = true → d.lim m = true) → limL n ds = true → limL m ds = true := by
  intro ds
  induction ds with
  | nil => intro _ _; rfl
  | cons a r ih =>
    intro k q
    rw [limL, Bool.and_eq_true_iff] at q ⊢
    exact ⟨k a List.mem_cons_self q.1, ih (fun d hd => k d (List.mem_cons_of_mem _ hd)) q.2⟩
mutual
theorem lim_mono {n m : Nat} (h : n ≤ m) : ∀ d : D, d.lim n = true → d.lim m = true
  | .lst xs, q => limL_mono' h xs q
  | .frz xs, q => limL_mono' h xs q
  | .tup xs, q => limL_mono' h xs q
  | .ins _ fs, q => limF_mono' h fs q
  | .exn _ fs, q => limF_mono' h fs q
  | .ref i, q => decide_eq_true (Nat.lt_of_lt_of_le (of_decide_eq_true q) h)
  | .non, _ | .bl _, _ | .int _, _ | .str _, _ | .byt _, _ | .gl _, _ | .ty _, _ | .edi, _ => rfl
theorem limL_mono' {n m : Nat} (h : n ≤ m) : ∀ ds : List D, limL n ds = true → limL m ds = true
  | [], _ => rfl
  | d :: ds, q => by
    rw [limL, Bool.and_eq_true_iff] at q ⊢
    exact ⟨lim_mono h d q.1, limL_mono' h ds q.2⟩
theorem limF_mono' {n m : Nat} (h : n ≤ m) : ∀ ds : List (String × D), limF n ds = true → limF m ds = true
  | [], _ => rfl
  | d :: ds, q => by
    rw [limF, Bool.and_eq_true_iff] at q ⊢
    exact ⟨lim_mono h d.2 q.1, limF_mono' h ds q.2⟩
end
theorem OAt.limOf {K : PySem.W.Frag} {mg : Str → Option Value} {g : Gh} {H : Hp} {a : Addr} {o : Ob} {n : Nat} (hn : g.m.length ≤ n) (h : OAt K mg g H a o) : o.lim n = true := by
  have one : ∀ (ds : List D), (∀ (i : Nat) d, ds[i]? = some d → d.lim n = true) → limL n ds = true := by
    intro ds
    induction ds with
    | nil => intro _; rfl
    | cons a r ih => intro h; rw [limL, h 0 a rfl, ih fun i d e => h (i + 1) d (by simpa using e)]; rfl
  have oneF : ∀ (ds : List (String × D)), (∀ (i : Nat) d, ds[i]? = some d → d.2.lim n = true) → limF n ds = true := by
    intro ds
    induction ds with
    | nil => intro _; rfl
    | cons a r ih => intro h; rw [limF, h 0 a rfl, ih fun i d e => h (i + 1) d (by simpa using e)]; rfl
  cases o with
  | dead => rfl
  | lst w xs =>
    obtain ⟨_, vs, _, hr⟩ := h
    exact one _ fun i d e => let ⟨v, _, rv⟩ := hr.get e; rv.limOf hn
  | ins c fs =>
    obtain ⟨_, C, dx, fv, _, _, hr⟩ := h
    exact oneF _ fun i d e => by
      have hi : i < fv.length := by rw [hr.len]; exact (List.getElem?_eq_some_iff.mp e).1
      exact (hr.at_ i d _ e (List.getElem?_eq_getElem hi)).limOf hn
/-- the callee's part of the store forgotten -/
theorem SRel.back {K : PySem.W.Frag} {mg : Str → Option Value} {g g' : Gh} {S S' : Sto} {H H' : Hp} (r : SRel K mg g S H) (l : g.le g') (r' : SRel K mg g' S' H') (k : KFr S S') :
    SRel K mg { g' with m := g'.m.take S.length } (S'.take S.length) H' ∧ g.le { g' with m := g'.m.take S.length } ∧ KFr S (S'.take S.length) := by
  refine ⟨r'.cut S.length fun i o hi ho => ?_, ⟨l.F, fun i a e => ?_, l.x⟩, ⟨by simp [k.le0], fun i o hi ho => ?_⟩⟩
  · obtain ⟨o0, h0, k0⟩ := k.frm i o hi ho
    obtain ⟨a, _, hob⟩ := r.at_ h0
    exact k0 _ (hob.limOf (Nat.le_of_eq r.len))
  · have hi : i < S.length := by rw [← r.len]; exact (List.getElem?_eq_some_iff.mp e).1
    show (g'.m.take S.length)[i]? = some a
    rw [List.getElem?_take, if_pos hi]
    exact l.m i a e
  · rw [List.getElem?_take, if_pos hi] at ho
    exact k.frm i o hi ho
theorem RepF.cut {K : PySem.W.Frag} {mg : Str → Option Value} {g' : Gh} {n k : Nat} {fs : List (String × D)} {fv : List (Str × V)} (h : RepF K mg g' fs fv) (hl : limF k fs = true) (hk : k ≤ n) : RepF K mg { g' with m := g'.m.take n } fs fv :=
  ⟨h.len, h.key, fun i p q e1 e2 => Rep.cut (g := g') (g' := { g' with m := g'.m.take n }) (n := n) (fun _ _ q => q) (fun _ _ q => q) (fun i a hi e => by show (g'.m.take n)[i]? = some a; rw [List.getElem?_take, if_pos hi]; exact e) (h.at_ i p q e1 e2) (lim_mono hk _ (limF_get hl e1))⟩
theorem Rep.cutN {K : PySem.W.Frag} {mg : Str → Option Value} {g' : Gh} {n : Nat} {d : D} {v : V} (h : Rep K mg g' d v) (hl : d.lim n = true) : Rep K mg { g' with m := g'.m.take n } d v :=
  Rep.cut (g := g') (g' := { g' with m := g'.m.take n }) (n := n) (fun _ _ q => q) (fun _ _ q => q) (fun i a hi e => by show (g'.m.take n)[i]? = some a; rw [List.getElem?_take, if_pos hi]; exact e) h hl
/-- the slots at a def's entry -/
theorem Rel.start {K : PySem.W.Frag} {mg : Str → Option Value} {g : Gh} {S S0 : Sto} {H : Hp} {ds : List D} {vs : List V} {N : List Str} (r : SRel K mg g S H) (k : KFr S0 S) (h : Reps K mg g ds vs) : Rel K mg g S0 (ds.map some ++ List.replicate (N.length - ds.length) none) S (start N vs) H := by
  refine ⟨r, k.le0, k.frm, by simp [L2.start, h.len], fun i d e => ?_⟩
  by_cases hi : i < ds.length
  · rw [List.getElem?_append_left (by simpa using hi), List.getElem?_map] at e
    cases hd : ds[i]? with
    | none => rw [hd] at e; cases e
    | some d' =>
      rw [hd] at e; cases e
      obtain ⟨v, hv, rv⟩ := h.get hd
      refine ⟨v, ?_, rv⟩
      unfold L2.start
      rw [List.getElem?_append_left (by rw [List.length_map, h.len]; exact hi), List.getElem?_map, hv]; rfl
  · rw [List.getElem?_append_right (by simpa using Nat.le_of_not_lt hi)] at e
    rw [List.getElem?_replicate] at e
    split at e <;> cases e
/-- the reading of a def's body gives its promise -/
theorem fn_go {k : Nat} {keep : Bool} {body : SS} {vs : List V} {H : Hp} {Q : VK} {E : XK} {N : List Str} {n : Nat} (hN : N.length = n) (h : spI X.K X.mg k id (fnM n keep body) vs H Q E) :
    tSI X (fun cls d _ H => E cls d H) body { nx := fun _ H' => Q .non H', rt := Q } (start N vs) H := by
  obtain ⟨g, S, ds, hn, r, hr, q⟩ := h
  refine ⟨g, S, _, S, Rel.start (N := N) r (.refl S) hr, ?_⟩
  rw [hN]
  unfold fnM at q
  revert q
  cases body S.length (ds.map some ++ List.replicate (n - ds.length) none) S with
  | stuck => exact fun q => q
  | exc c fs e1 S1 =>
    intro q
    dsimp only at q
    by_cases hl : limF 0 fs = true
    · rw [if_pos hl] at q
      intro g' σ' H' cls d _ l rel x
      obtain ⟨r1, l1, k1⟩ := r.back l rel.st rel.kfr
      refine q _ H' cls d l1 r1 k1 ?_
      obtain ⟨C, h1, h2, h3 | ⟨dd, fv, h3, h4, h5⟩⟩ := x
      · exact ⟨C, h1, h2, .inl h3⟩
      · exact ⟨C, h1, h2, .inr ⟨dd, fv, h3, h4, h5.cut hl (Nat.zero_le _)⟩⟩
    · rw [if_neg hl] at q
      exact q.elim
  | ok f e1 S1 =>
    intro q g' σ' H' _ l rel
    obtain ⟨r1, l1, k1⟩ := r.back l rel.st rel.kfr
    cases f with
    | nx =>
      dsimp only at q
      cases keep with
      | true => exact q g' H' .non l rel.st rel.kfr .non
      | false => exact q _ H' .non l1 r1 k1 .non
    | ret d =>
      intro v rv
      dsimp only at q
      cases keep with
      | true => exact q g' H' v l rel.st rel.kfr rv
      | false =>
        rw [if_neg Bool.false_ne_true] at q
        by_cases hl : d.lim S.length = true
        · rw [if_pos hl] at q
          exact q _ H' v l1 r1 k1 (rv.cutN hl)
        · rw [if_neg hl] at q
          exact q.elim
    | bk => exact q.elim
    | ct => exact q.elim

section
variable {P : Program} {w : World} {K : PySem.W.Frag} {mg : Str → Option Value} {base : Heap}
/-- THE RULE for a def -/
theorem fn_ok {x qual : Str} {st : Stmt} {f : Addr} {fd : FuncData} {N ps : List Str} {k n c : Nat} {keep : Bool} {body : SS} (F : Fun K x qual st f fd) (S : FnScope N ps (defScope st)) (hN : N.length = n) (hc : ps.length = c)
    (h : ∀ (cdv : Value) (A : Around) (outer : List PySem.Env) (s : Shared) (H : Hp) (E : XK), Room k (A.deeper (PyProof.Rows.envOfC qual (defScope st) s.heap.objs.size f cdv)) →
      RSs (cxOf (L2.CX P w) P w K mg base N qual (defScope st) f cdv A outer s H E) (defBody st) body) : FnOk P w K mg base (L2.CX P w) (k + 1) f fd ps (spI K mg c id (fnM n keep body)) := by
  refine F.okX S (fun vs H Q E h => by rw [spI_len vs H Q E h, hc]) fun cdv A outer s H vs Q E hr hsp => ?_
  refine ⟨_, h cdv A outer s H E hr (fun cls d _ H => E cls d H) ⟨takes_of rfl rfl rfl rfl, passes_of rfl, hr.units⟩, fn_go (X := cxOf (L2.CX P w) P w K mg base N qual (defScope st) f cdv A outer s H E) hN hsp⟩
end

end
end Mir
end

/-! MirObj -/
section
set_option Elab.async false
set_option linter.all false
set_option maxRecDepth 100000
/-! MirObj: calls, methods, attributes, instances, lists of the store. -/
namespace Mir
open PySem L2

section
variable {X : Cx}
/-! ### calls -/
/-- a def as a callee, its promise by its meaning -/
def Callee (X : Cx) (f : Addr) (k : Nat) (bs : Sto → Sto) (m : SF) (up : Nat) : Prop :=
  ∃ fd ps lvl, FnOk X.prog X.w X.K X.mg X.base (L2.CX X.prog X.w) lvl f fd ps (spI X.K X.mg k bs m) ∧ Binds X.K fd ps [] ∧ Room (lvl + up) X.A
/-- what a caller goes on with -/
def OutOk (K : PySem.W.Frag) (mg : Str → Option Value) (W : WX) (S : Sto) (σ : L2.St) (g : Gh) (Q : VK) : R D → Prop
  | .ok d _ S' => ∀ g' H' v, g.le g' → SRel K mg g' S' H' → KFr S S' → Rep K mg g' d v → Q v H'
  | .exc c fs _ S' => ∀ g' H' cls d, g.le g' → SRel K mg g' S' H' → KFr S S' → XRep K mg g' c fs cls d → W cls d σ H'
  | .stuck => False
/-- from the promise to what the caller goes on with -/
theorem sp_of {W : WX} {m : SF} {k : Nat} {bs : Sto → Sto} {g : Gh} {S1 S : Sto} {σ : L2.St} {H : Hp} {xs : List D} {vs : List V} {Q : VK} (rel : SRel X.K X.mg g S1 H) (kf : ∀ S', KFr (bs S1) S' → KFr S S') (hl : xs.length = k) (rvs : Reps X.K X.mg g xs vs)
    (q : OutOk X.K X.mg W S σ g Q (m xs S1)) : spI X.K X.mg k bs m vs H Q (WE W σ) := by
  refine ⟨g, S1, xs, hl, rel, rvs, ?_⟩
  revert q
  cases m xs S1 with
  | stuck => exact fun q => q
  | exc c f e2 S2 => exact fun q g' H' cls d l r kf' x => q g' H' cls d l r (kf _ kf') x
  | ok d e2 S2 => exact fun q g' H' v l r kf' rv => q g' H' v l r (kf _ kf') rv
theorem Post.out {K : PySem.W.Frag} {mg : Str → Option Value} {W : WX} {S0 S : Sto} {σ : L2.St} {H : Hp} {g : Gh} {r : R D} {e : Env} {Q : VK} (rel : Rel K mg g S0 e S σ H) (q : Post K mg W S0 (· = σ) g (r.out e) (fun g' d _ _ _ H' => ∀ v, Rep K mg g' d v → Q v H')) : OutOk K mg W S σ g Q r := by
  cases r with
  | stuck => exact q
  | exc c fs e1 S1 => exact fun g' H' cls d l r k x => q g' σ H' cls d rfl l (rel.move l r k) x
  | ok d e1 S1 => exact fun g' H' v l r k rv => q g' σ H' rfl l (rel.move l r k) v rv
theorem re_call {x : Str} {e : Expr} {es : List Expr} {p pos : Pos} {f : Addr} {k : Nat} {m : SF} {fs : SA} (C : Callee X f k id m 0) (hg : Gl X x) (hm : X.mg x = some (.ref f)) (hk : PySem.W.keepIn X.K (.ref f) = true)
    (ha : RA X (e :: es) fs) (hdb : (x == ("__debug__" : Str)) = false := by decide) (he : starEach (e :: es) X.env = (false, eval e X.env) :: starEach es X.env := by rfl) (hpl : (backTo pos (starEach es X.env)).any (·.1) = false := by rfl) :
    RE X (.Call (.Name x p) (e :: es) [] pos) (callM m k fs) := fun W ok => by
  obtain ⟨fd, ps, lvl, F, b, hr⟩ := C
  refine pe_imp (pe_callS F hr hg hm hk b (passAt ok.tk) (ha W ok) hdb he hpl) fun σ H Q ⟨g, S0, e, S, rel, q⟩ => ⟨g, S0, e, S, rel, q.bind.imp (fun _ t => t) fun g1 xs e1 S1 σ1 H1 t1 l1 rel1 q1 vs rvs => ?_⟩
  subst t1
  by_cases hl : xs.length = k
  · rw [if_pos hl] at q1
    exact sp_of rel1.st (fun _ h => h) hl rvs (Post.out rel1 q1)
  · rw [if_neg hl] at q1
    exact q1.elim
theorem re_call0 {x : Str} {p pos : Pos} {f : Addr} {m : SF} (C : Callee X f 0 id m 0) (hg : Gl X x) (hm : X.mg x = some (.ref f)) (hk : PySem.W.keepIn X.K (.ref f) = true) (hdb : (x == ("__debug__" : Str)) = false := by decide) :
    RE X (.Call (.Name x p) [] [] pos) (callM m 0 nilA) := fun W ok => by
  obtain ⟨fd, ps, lvl, F, b, hr⟩ := C
  refine ⟨fun pins s σ H Q I ⟨g, S0, e, S, rel, q⟩ => ?_⟩
  refine wpAny_Call_Name_kw (ld_glob I hg hm ?_ hdb)
  exact PySem.W.callWith_K0 I.kIn hk (run_fnS (us := []) (vs := []) F hr b (passAt ok.tk σ) I .nil (sp_of rel.st (fun _ h => h) rfl .nil (Post.out rel q)))

/-! ### instances -/
theorem classOf_ok {K : PySem.W.Frag} {mg : Str → Option Value} {g : Gh} {S : Sto} {H : Hp} {d : D} {v : V} {c : String} {fs : List (String × D)} (r : SRel K mg g S H) (h : Rep K mg g d v) (e : classOf S d = some (c, fs)) :
    ∃ a C dx fv, v = .ref a ∧ mg (nm c) = some (.ref C) ∧ H a = some (.ins C dx fv) ∧ RepF K mg g fs fv := by
  cases d with
  | ins c' fs' =>
    cases e
    cases h with
    | ins h1 h2 h3 h4 h5 => exact ⟨_, _, _, _, rfl, h1, r.sub _ _ h2, h3, h4, h5⟩
  | ref i =>
    cases h with
    | ref hm =>
      have e' : (match S[i]? with | some (.ins c fs) => some (c, fs) | _ => none) = some (c, fs) := e
      cases hs : S[i]? with
      | none => rw [hs] at e'; cases e'
      | some o =>
        rw [hs] at e'
        cases o with
        | ins c' fs' =>
          cases e'
          obtain ⟨_, C, dx, fv, h1, h2, h3⟩ := r.ob _ _ _ hs hm
          exact ⟨_, C, dx, fv, rfl, h1, h2, h3⟩
        | dead => cases e'
        | lst w xs => cases e'
  | _ => cases e
/-- a method's facts -/
def MethOk (X : Cx) (name c : String) (k : Nat) (m : SF) : Prop := ∃ C g, X.mg (nm c) = some (.ref C) ∧ Cls X.K C ∧ Meth X.K C (nm name) g ∧ Callee X g (k + 1) id m 0
inductive MTbl (X : Cx) (name : String) : List (String × Nat × SF) → Prop
  | nil : MTbl X name []
  | cons {c : String} {k : Nat} {m : SF} {r : List (String × Nat × SF)} : MethOk X name c k m → MTbl X name r → MTbl X name ((c, k, m) :: r)
theorem MTbl.get {name : String} : ∀ {t : List (String × Nat × SF)} {c : String} {k : Nat} {m : SF}, MTbl X name t → t.lookup c = some (k, m) → MethOk X name c k m
  | _, c, k, m, .nil, e => by simp at e
  | _, c, k, m, @MTbl.cons _ _ c' k' m' r h t, e => by
    by_cases hc : c = c'
    · subst hc
      rw [List.lookup_cons_self] at e
      cases e; exact h
    · rw [List.lookup_cons, beq_eq_false_iff_ne.mpr hc] at e
      exact t.get e
theorem re_meth {name : String} {o e : Expr} {es : List Expr} {apos pos : Pos} {tbl : List (String × Nat × SF)} {fo : SE} {fs : SA} {pl : Sem Bool} (T : MTbl X name tbl) (ho : RE X o fo) (ha : RA X (e :: es) fs)
    (hst : starEach (e :: es) X.env = (false, eval e X.env) :: starEach es X.env := by rfl) (hpl : (backTo pos (starEach es X.env)).any (·.1) = false := by rfl)
    (ht : eval (.Call (.Attribute o (nm name) apos) (e :: es) [] pos) X.env = (do
      let ov ← eval o X.env
      standAt apos.atName
      let (f, first) ← holding [ov] (getMethod ov (nm name) pl)
      callWith pos f first (backTo pos (starEach (e :: es) X.env)) (backToKw pos (keywordEach [] X.env))) := by rfl) : RE X (.Call (.Attribute o (nm name) apos) (e :: es) [] pos) (methM name tbl fo fs) := fun W ok => by
  refine ⟨fun pins s σ H Q I ⟨g, S0, e, S, rel, q⟩ => methcall_of (ho W ok) I ⟨g, S0, e, S, rel, q.bind.imp (fun _ t => t) fun g1 d e1 S1 σ1 H1 t1 l1 rel1 q1 v rv => ?_⟩ ht⟩
  subst t1
  cases hc : classOf S1 d with
  | none => rw [hc] at q1; exact q1.elim
  | some p =>
    obtain ⟨c, fl⟩ := p
    rw [hc] at q1
    dsimp only at q1
    cases hl : tbl.lookup c with
    | none => rw [hl] at q1; exact q1.elim
    | some km =>
      obtain ⟨k, m⟩ := km
      rw [hl] at q1
      cases hf : fl.lookup name with
      | some y => rw [hf] at q1; exact q1.elim
      | none =>
        rw [hf] at q1
        dsimp only at q1
        obtain ⟨a, C, dx, fv, rfl, h1, h2, h3⟩ := classOf_ok rel1.st rv hc
        obtain ⟨C', f, g1', g2', g3', fd, ps, lvl, F, b, hr⟩ := T.get hl
        rw [h1] at g1'; cases g1'
        refine ⟨a, C, dx, fv, f, rfl, h2, g2', g3', h3.lookN name hf, fun s1 I1 => ?_⟩
        refine PySem.W.callWith_K (first := [.ref a]) (h₀ := X.base) I1.ok.mod.kin g3'.kp (thn ((ha W ok).run pos pins s1 _ H1 (fun vs H2 => spI X.K X.mg (k + 1) id m (.ref a :: vs) H2 Q (WE W σ1)) I1 ⟨g1, S0, e1, S1, rel1, q1.bind.imp (fun _ t => t) fun g2 xs e2 S2 σ2 H2 t2 l2 rel2 q2 vs rvs => ?_⟩) fun us s2 ⟨vs, H2, I2, r, q2⟩ => ⟨I2.kIn, ?_⟩) hst hpl
        · subst t2
          by_cases hl' : xs.length = k
          · rw [if_pos hl'] at q2
            exact sp_of rel2.st (fun _ h => h) (by simp [hl']) (.cons (rv.mono l2) rvs) (Post.out rel2 q2)
          · rw [if_neg hl'] at q2
            exact q2.elim
        · exact run_fnS (us := .ref a :: us) (vs := .ref a :: vs) F hr b (passAt ok.tk _) I2 (.cons rfl r) q2
theorem re_meth0 {name : String} {o : Expr} {apos pos : Pos} {tbl : List (String × Nat × SF)} {fo : SE} {pl : Sem Bool} (T : MTbl X name tbl) (ho : RE X o fo)
    (ht : eval (.Call (.Attribute o (nm name) apos) [] [] pos) X.env = (do
      let ov ← eval o X.env
      standAt apos.atName
      let (f, first) ← holding [ov] (getMethod ov (nm name) pl)
      callWith pos f first (backTo pos (starEach [] X.env)) (backToKw pos (keywordEach [] X.env))) := by rfl) : RE X (.Call (.Attribute o (nm name) apos) [] [] pos) (methM name tbl fo nilA) := fun W ok => by
  refine ⟨fun pins s σ H Q I ⟨g, S0, e, S, rel, q⟩ => methcall_of (ho W ok) I ⟨g, S0, e, S, rel, q.bind.imp (fun _ t => t) fun g1 d e1 S1 σ1 H1 t1 l1 rel1 q1 v rv => ?_⟩ ht⟩
  subst t1
  cases hc : classOf S1 d with
  | none => rw [hc] at q1; exact q1.elim
  | some p =>
    obtain ⟨c, fl⟩ := p
    rw [hc] at q1
    dsimp only at q1
    cases hl : tbl.lookup c with
    | none => rw [hl] at q1; exact q1.elim
    | some km =>
      obtain ⟨k, m⟩ := km
      rw [hl] at q1
      cases hf : fl.lookup name with
      | some y => rw [hf] at q1; exact q1.elim
      | none =>
        rw [hf] at q1
        dsimp only at q1
        obtain ⟨a, C, dx, fv, rfl, h1, h2, h3⟩ := classOf_ok rel1.st rv hc
        obtain ⟨C', f, g1', g2', g3', fd, ps, lvl, F, b, hr⟩ := T.get hl
        rw [h1] at g1'; cases g1'
        refine ⟨a, C, dx, fv, f, rfl, h2, g2', g3', h3.lookN name hf, fun s1 I1 => ?_⟩
        refine PySem.W.callWith_K0 (first := [.ref a]) I1.kIn g3'.kp (run_fnS (us := [.ref a]) (vs := [.ref a]) F hr b (passAt ok.tk _) I1 (.cons rfl .nil) ?_)
        have q2 : Post X.K X.mg W S0 (· = _) g1 (if ([] : List D).length = k then (m [d] S1).out e1 else .stuck) _ := q1
        by_cases hl' : ([] : List D).length = k
        · rw [if_pos hl'] at q2
          exact sp_of rel1.st (fun _ h => h) (by rw [← hl']; rfl) (.cons rv .nil) (Post.out rel1 q2)
        · rw [if_neg hl'] at q2
          exact q2.elim
end
end Mir
end

/-! MirObj2 -/
section
set_option Elab.async false
set_option linter.all false
set_option maxRecDepth 100000
/-! MirObj2: attributes, new instances, lists of the store turned. -/
namespace Mir
open PySem L2

section
variable {X : Cx}
def FldOk (X : Cx) (f c : String) : Prop := ∃ C, X.mg (nm c) = some (.ref C) ∧ Cls X.K C ∧ NoAttr X.K C (nm f)
def PrpOk (X : Cx) (f c : String) (m : SF) : Prop := ∃ C p g, X.mg (nm c) = some (.ref C) ∧ Cls X.K C ∧ PropOf X.K C (nm f) p g ∧ Callee X g 1 id m 1
inductive ATbl (X : Cx) (f : String) : List (String × Option SF) → Prop
  | nil : ATbl X f []
  | fld {c : String} {r : List (String × Option SF)} : FldOk X f c → ATbl X f r → ATbl X f ((c, none) :: r)
  | prp {c : String} {m : SF} {r : List (String × Option SF)} : PrpOk X f c m → ATbl X f r → ATbl X f ((c, some m) :: r)
theorem ATbl.get {f : String} : ∀ {t : List (String × Option SF)} {c : String} {o : Option SF}, ATbl X f t → t.lookup c = some o → (match o with | none => FldOk X f c | some m => PrpOk X f c m)
  | _, c, o, .nil, e => by simp at e
  | _, c, o, @ATbl.fld _ _ c' r h t, e => by
    by_cases hc : c = c'
    · subst hc
      rw [List.lookup_cons_self] at e
      cases e; exact h
    · rw [List.lookup_cons, beq_eq_false_iff_ne.mpr hc] at e
      exact t.get e
  | _, c, o, @ATbl.prp _ _ c' m' r h t, e => by
    by_cases hc : c = c'
    · subst hc
      rw [List.lookup_cons_self] at e
      cases e; exact h
    · rw [List.lookup_cons, beq_eq_false_iff_ne.mpr hc] at e
      exact t.get e
theorem re_attr {f : String} {e : Expr} {pos : Pos} {tbl : List (String × Option SF)} {fo : SE} (T : ATbl X f tbl) (ho : RE X e fo) (hb : attributeBase e (nm f) X.env (eval e X.env) = eval e X.env := by rfl) : RE X (.Attribute e (nm f) pos) (attrM f tbl fo) := fun W ok => by
  refine ⟨fun pins s σ H Q I ⟨g, S0, en, S, rel, q⟩ => attr_of hb (thn ((ho W ok).run pins s σ H (fun x H1 => ∃ a C dx fs, x = .ref a ∧ H1 a = some (.ins C dx fs) ∧ Cls X.K C ∧ ((∃ v, NoAttr X.K C (nm f) ∧ fs.lookup (nm f) = some v ∧ Q v H1) ∨
      ∃ p g fd ps lvl sp, PropOf X.K C (nm f) p g ∧ FnOk X.prog X.w X.K X.mg X.base (L2.CX X.prog X.w) lvl g fd ps sp ∧ Binds X.K fd ps [] ∧ Room (lvl + 1) X.A ∧ sp [.ref a] H1 Q E0)) I ⟨g, S0, en, S, rel, q.bind.imp (fun _ t => t) fun g1 d e1 S1 σ1 H1 t1 l1 rel1 q1 v rv => ?_⟩) fun u s1 ⟨x, H1, I1, rx, a, C, dx, fs, ex, ea, c, h⟩ => ?_)⟩
  · subst t1
    cases hc : classOf S1 d with
    | none => rw [hc] at q1; exact q1.elim
    | some p =>
      obtain ⟨c, fl⟩ := p
      rw [hc] at q1
      dsimp only at q1
      obtain ⟨a, C, dx, fv, rfl, h1, h2, h3⟩ := classOf_ok rel1.st rv hc
      cases hl : tbl.lookup c with
      | none => rw [hl] at q1; exact q1.elim
      | some o =>
        rw [hl] at q1
        have T1 := T.get hl
        cases o with
        | none =>
          dsimp only at q1 T1
          obtain ⟨C', k1, k2, k3⟩ := T1
          rw [h1] at k1; cases k1
          obtain ⟨d', hd, q2⟩ := Post.opt q1
          obtain ⟨w, hw, rw'⟩ := h3.look f hd
          exact ⟨a, C, dx, fv, rfl, h2, k2, .inl ⟨w, k3, hw, q2 g1 σ1 H1 rfl (.refl g1) rel1 w rw'⟩⟩
        | some m =>
          dsimp only at q1 T1
          obtain ⟨C', p, g2, k1, k2, k3, fd, ps, lvl, F, b, hr⟩ := T1
          rw [h1] at k1; cases k1
          refine ⟨a, C, dx, fv, rfl, h2, k2, .inr ⟨p, g2, fd, ps, lvl, _, k3, F, b, hr, g1, S1, [d], rfl, rel1.st, .cons rv .nil, ?_⟩⟩
          revert q1
          cases m [d] S1 with
          | stuck => exact fun q => q.elim
          | exc c f e2 S2 => exact fun q => q.elim
          | ok d' e2 S2 => exact fun q g' H' v l r kf rv => q g' _ H' rfl l (rel1.move l r kf) v rv
  · subst ex
    obtain rfl : u = Value.ref a := rx
    rcases h with ⟨v, n, l, q⟩ | ⟨p, g', fd, ps, lvl, sp, hp, F, b, hr, q⟩
    · exact getattr_ok I1 ea c n l fun u' s2 I2 ru => ⟨v, H1, I2, ru, q⟩
    · exact getprop_ok I1 ea c hp F hr b .nil passL q
inductive CTbl (X : Cx) (f : String) : List String → Prop
  | nil : CTbl X f []
  | cons {c : String} {r : List String} : FldOk X f c → CTbl X f r → CTbl X f (c :: r)
theorem CTbl.get {f : String} : ∀ {t : List String} {c : String}, CTbl X f t → t.elem c = true → FldOk X f c
  | _, c, .nil, e => by simp at e
  | _, c, @CTbl.cons _ _ c' r h t, e => by
    by_cases hc : c = c'
    · subst hc; exact h
    · refine t.get ?_
      rw [List.elem_cons] at e
      rw [beq_eq_false_iff_ne.mpr hc] at e
      exact e
/-- an object of the store written, the frame standing -/
theorem Rel.write {K : PySem.W.Frag} {mg : Str → Option Value} {g : Gh} {S0 : Sto} {e : Env} {S : Sto} {σ : L2.St} {H : Hp} {o : HO} (r : Rel K mg g S0 e S σ H) {i : Nat} {a : Addr} {ob ob' : Ob} (h : S[i]? = some ob) (hl : ob.live = true) (hm : g.m[i]? = some a)
    (ho : OAt K mg g (upd H a o) a ob') (hp : S0.length ≤ i ∨ ∀ n, ob.lim n = true → ob'.lim n = true) : Rel K mg g S0 e (S.set i ob') σ (upd H a o) := by
  have k := r.kfr.set h hp
  exact ⟨r.st.put h hl hm ho, k.le0, k.frm, r.el, r.sl⟩
theorem limF_put {f : String} {d : D} {n : Nat} (hd : d.lim n = true) : ∀ {fs : List (String × D)}, limF n fs = true → limF n (putD f d fs) = true
  | [], _ => by rw [putD, limF, hd]; rfl
  | p :: r, h => by
    rw [limF, Bool.and_eq_true_iff] at h
    rw [putD]
    split
    · rw [limF, hd, h.2]; rfl
    · rw [limF, h.1, limF_put hd h.2]; rfl
theorem limL_set {d : D} {n : Nat} (hd : d.lim n = true) : ∀ {xs : List D} {i : Nat}, limL n xs = true → limL n (xs.set i d) = true
  | [], _, _ => rfl
  | x :: r, 0, h => by
    rw [limL, Bool.and_eq_true_iff] at h
    rw [List.set_cons_zero, limL, hd, h.2]; rfl
  | x :: r, i + 1, h => by
    rw [limL, Bool.and_eq_true_iff] at h
    rw [List.set_cons_succ, limL, h.1, limL_set hd h.2]; rfl
theorem limL_app {n : Nat} : ∀ {xs ys : List D}, limL n xs = true → limL n ys = true → limL n (xs ++ ys) = true
  | [], _, _, h => h
  | x :: r, ys, h, h2 => by
    rw [limL, Bool.and_eq_true_iff] at h
    rw [List.cons_append, limL, h.1, limL_app h.2 h2]; rfl
theorem mayPut_ok {b i : Nat} {d : D} (h : mayPut b i d = true) : b ≤ i ∨ ∀ n, d.lim n = true := by
  unfold mayPut at h
  rcases Bool.or_eq_true_iff.mp h with h | h
  · exact .inl (of_decide_eq_true h)
  · exact .inr fun n => lim_mono (Nat.zero_le n) d h
theorem rs_setF {f : String} {o value : Expr} {pos pos' : Pos} {cls : List String} {fo fv : SE} (T : CTbl X f cls) (ho : RE X o fo) (hv : RE X value fv) (hs : swapsWith value (some (.Attribute o (nm f) pos')) pos.line X.env = pure false := by rfl) :
    RS X (.Assign [.Attribute o (nm f) pos'] value pos) (setF f cls fo fv) := fun W ok => ps_imp (ps_fld (ho W ok) (hv W ok) hs) fun D σ H ⟨g, S0, e, S, rel, q⟩ =>
  ⟨g, S0, e, S, rel, q.bind.imp (fun _ t => trivial) fun g1 d e1 S1 σ1 H1 t1 l1 rel1 q1 v rv => by
    subst t1
    exact ⟨g1, S0, e1, S1, rel1, q1.bind.imp (fun _ t => trivial) fun g2 x e2 S2 σ2 H2 t2 l2 rel2 q2 u ru => by
      subst t2
      cases x with
      | ref i =>
        cases ru with
        | @ref _ a hm =>
          dsimp only at q2
          cases hS : S2[i]? with
          | none => rw [hS] at q2; exact q2.elim
          | some ob =>
            rw [hS] at q2
            cases ob with
            | ins c fs =>
              dsimp only at q2
              obtain ⟨hF, C, dx, fv', h1, h2, h3⟩ := rel2.st.ob _ _ _ hS hm
              split at q2
              · rename_i hc
                obtain ⟨C', k1, k2, k3⟩ := T.get hc.1
                rw [h1] at k1; cases k1
                refine ⟨a, C, dx, fv', rfl, h2, k2, k3, by rw [h3.len]; exact hc.2.1, ?_⟩
                refine q2 g2 σ2 _ trivial (.refl g2) (rel2.write hS rfl hm ⟨hF, C, dx, _, h1, upd_same, h3.put f (rv.mono l2)⟩ ?_)
                rcases mayPut_ok hc.2.2 with hp | hp
                · exact .inl hp
                · exact .inr fun n hn => limF_put (hp n) hn
              · exact q2.elim
            | dead => exact q2.elim
            | lst w xs => exact q2.elim
      | _ => exact q2.elim⟩⟩
end
end Mir
end

/-! MirObj3 -/
section
set_option Elab.async false
set_option linter.all false
set_option maxRecDepth 100000
/-! MirObj3: o.f += v, new instances, methods of lists, stores. -/
namespace Mir
open PySem L2

section
variable {X : Cx}
/-! ### a op= b on values -/
def IpL (K : PySem.W.Frag) (mg : Str → Option Value) (f : D → D → Option D) (r : V → V → Hp → VK → Prop) : Prop :=
  ∀ (g : Gh) (H : Hp) (x y z : D) (v u : V) (Q : VK), Rep K mg g x v → Rep K mg g y u → f x y = some z → (∀ w, Rep K mg g z w → Q w H) → r v u H Q
def addI : D → D → Option D
  | .int i, .int j => some (.int (i + j))
  | _, _ => none
def subI : D → D → Option D
  | .int i, .int j => some (.int (i - j))
  | _, _ => none
theorem ip_addI {K : PySem.W.Frag} {mg : Str → Option Value} : IpL K mg addI rAdd := fun g H x y z v u Q hx hy hz q => by
  cases hx <;> first | (cases hz; done) | skip
  cases hy <;> first | (cases hz; done) | skip
  cases hz
  exact ⟨_, _, rfl, rfl, q _ .int⟩
theorem ip_subI {K : PySem.W.Frag} {mg : Str → Option Value} : IpL K mg subI rSub := fun g H x y z v u Q hx hy hz q => by
  cases hx <;> first | (cases hz; done) | skip
  cases hy <;> first | (cases hz; done) | skip
  cases hz
  exact ⟨_, _, rfl, rfl, q _ .int⟩
theorem rs_augF {f : String} {o value : Expr} {op : Operator} {pos tpos : Pos} {cls : List String} {fo fv : SE} {fop : D → D → Option D} {rd : V → V → Hp → VK → Prop} (T : CTbl X f cls) (hop : InOp X op rd) (hl : IpL X.K X.mg fop rd) (ho : RE X o fo) (hv : RE X value fv) :
    RS X (.AugAssign (.Attribute o (nm f) tpos) op value pos) (augF f cls fop fo fv) := fun W ok => ps_imp (ps_fldaug (ho W ok) (hv W ok) hop) fun D σ H ⟨g, S0, e, S, rel, q⟩ =>
  ⟨g, S0, e, S, rel, q.bind.imp (fun _ t => trivial) fun g1 x e1 S1 σ1 H1 t1 l1 rel1 q1 v rv => by
    subst t1
    cases x with
    | ref i =>
      cases rv with
      | @ref _ a hm =>
        dsimp only at q1
        cases hS : S1[i]? with
        | none => rw [hS] at q1; exact q1.elim
        | some ob =>
          rw [hS] at q1
          cases ob with
          | ins c fs =>
            dsimp only at q1
            obtain ⟨hF, C, dx, fv', h1, h2, h3⟩ := rel1.st.ob _ _ _ hS hm
            cases hf : fs.lookup f with
            | none => rw [hf] at q1; exact q1.elim
            | some y =>
              rw [hf] at q1
              dsimp only at q1
              obtain ⟨w, hw, rw'⟩ := h3.look f hf
              by_cases hc : cls.elem c = true
              · rw [if_pos hc] at q1
                obtain ⟨C', k1, k2, k3⟩ := T.get hc
                rw [h1] at k1; cases k1
                refine ⟨a, C, dx, fv', w, rfl, h2, k2, k3, hw, g1, S0, e1, S1, rel1, q1.bind.imp (fun _ t => trivial) fun g2 d e2 S2 σ2 H2 t2 l2 rel2 q2 u ru => ?_⟩
                subst t2
                cases hz : fop y d with
                | none => rw [hz] at q2; exact q2.elim
                | some z =>
                  rw [hz] at q2
                  cases hS2 : S2[i]? with
                  | none => rw [hS2] at q2; exact q2.elim
                  | some ob2 =>
                    rw [hS2] at q2
                    cases ob2 with
                    | ins c' fs' =>
                      dsimp only at q2
                      have hm2 := l2.m _ _ hm
                      obtain ⟨hF2, C2, dx2, fv2, m1, m2, m3⟩ := rel2.st.ob _ _ _ hS2 hm2
                      split at q2
                      · rename_i hk
                        obtain ⟨hk1, hk2, rfl⟩ := hk
                        rw [h1] at m1; cases m1
                        refine hl g2 H2 y d z w u _ (rw'.mono l2) ru hz fun w' rz => ⟨dx2, fv2, m2, by rw [m3.len]; exact hk1, ?_⟩
                        refine q2 g2 σ2 _ trivial (.refl g2) (rel2.write hS2 rfl hm2 ⟨hF2, C, dx2, _, h1, upd_same, m3.put f rz⟩ ?_)
                        rcases mayPut_ok hk2 with hp | hp
                        · exact .inl hp
                        · exact .inr fun n hn => limF_put (hp n) hn
                      · exact q2.elim
                    | dead => exact q2.elim
                    | lst w xs => exact q2.elim
              · rw [if_neg hc] at q1
                exact q1.elim
          | dead => exact q1.elim
          | lst w xs => exact q1.elim
    | _ => exact q1.elim⟩

/-! ### new instances -/
theorem run_makeS {f C : Addr} {k : Nat} {fd : FuncData} {ps : List Str} {sp : Sp} {E : St → XK} {CX : CXT} {pins : List (Addr × Obj)} {σ : St} {H : Hp} {s : Shared} {Q : VK} {us : List Value} {vs : List V} (M : Mk X.K C f) (F : FnOk X.prog X.w X.K X.mg X.base CX k f fd ps sp) (hr : Room (k + 1) X.A) (hb : Binds X.K fd ps [])
    (hx : PassesAt CX X σ (E σ)) (I : Inv X pins σ H s) (r : Vals vs us)
    (h : ∀ x dx, H x = none → H dx = none → dx ≠ x → sp (.ref x :: vs) (upd (upd H dx (.own x)) x (.ins C dx [])) (fun v H2 => v = .non ∧ Q (.ref x) H2) (E σ)) :
    wpAny (model X.prog X.w) X.A (call (.ref C) us) (EP X pins σ Q) X.xe s := by
  have hq := h (s.heap.objs.size + 1) s.heap.objs.size (I.hok.fresh (Nat.le_succ _)) (I.hok.fresh (Nat.le_refl _)) (Nat.ne_of_lt (Nat.lt_succ_self _))
  have I2 := Inv.made (C := C) I
  have r2 : Vals (V.ref (s.heap.objs.size + 1) :: vs) (Value.ref (s.heap.objs.size + 1) :: us) := .cons rfl r
  have hl : (Value.ref (s.heap.objs.size + 1) :: us).length = ps.length := by
    have e := r2.length
    rw [F.len _ _ _ _ hq] at e
    exact e.symm
  have b := hb _ (Value.ref (s.heap.objs.size + 1) :: us) I2.kIn (by rw [List.append_nil]; exact hl)
  rw [List.append_nil] at b
  refine wpAny_call (make_map (f := f) I.kIn M.makes M.init (beq_iff_eq.mp M.fn) (codeAny_mono (F.run _ X.stack _ _ ⟨Value.ref (s.heap.objs.size + 1) :: us, []⟩ (Value.ref (s.heap.objs.size + 1) :: us) _ _ (E σ) (hr.make C us [])
    (I2.env0.make C us []) b r2 hq) fun r s' hq' => ?_))
  cases r with
  | error e => exact hx pins _ _ e s' I2 hq'
  | ok fl =>
    cases fl with
    | ret u =>
      obtain ⟨v, H', I3, rv, ev, q3⟩ := I2.after hq'
      subst ev
      exact ⟨rv, ⟨V.ref (s.heap.objs.size + 1), H', I3, rfl, q3⟩⟩
    | next => exact False.elim hq'
    | brk => exact False.elim hq'
    | cont => exact False.elim hq'
/-- the fields of an instance as they stand, own lists frozen -/
theorem frost_ok {K : PySem.W.Frag} {mg : Str → Option Value} {n : Nat} {H : Hp} : ∀ {fs : List (String × D)} {fv : List (Str × V)} {g : Gh} {S : Sto}, SRel K mg g S H → RepF K mg g fs fv →
    ∃ g', g.le g' ∧ g'.m = g.m ∧ SRel K mg g' (frostF n fs S).2 H ∧ RepF K mg g' (frostF n fs S).1 fv ∧ KFr S (frostF n fs S).2 ∧ (∀ j : Nat, j < n → (frostF n fs S).2[j]? = S[j]?) ∧ ∀ (j : Nat) c fl, S[j]? = some (.ins c fl) → (frostF n fs S).2[j]? = some (.ins c fl)
  | [], fv, g, S, r, h => ⟨g, .refl g, rfl, r, h, .refl S, fun _ _ => rfl, fun _ _ _ h => h⟩
  | (k, d) :: rest, fv, g, S, r, h => by
    obtain ⟨y, fv', rfl, ry, hr⟩ := h.inv
    have go : ∀ (S1 : Sto) (d1 : D) (g1 : Gh), g.le g1 → g1.m = g.m → SRel K mg g1 S1 H → Rep K mg g1 d1 y → KFr S S1 → (∀ j : Nat, j < n → S1[j]? = S[j]?) → (∀ (j : Nat) c fl, S[j]? = some (.ins c fl) → S1[j]? = some (.ins c fl)) → frostF n ((k, d) :: rest) S = ((k, d1) :: (frostF n rest S1).1, (frostF n rest S1).2) →
        ∃ g', g.le g' ∧ g'.m = g.m ∧ SRel K mg g' (frostF n ((k, d) :: rest) S).2 H ∧ RepF K mg g' (frostF n ((k, d) :: rest) S).1 ((nm k, y) :: fv') ∧ KFr S (frostF n ((k, d) :: rest) S).2 ∧ (∀ j : Nat, j < n → (frostF n ((k, d) :: rest) S).2[j]? = S[j]?) ∧ ∀ (j : Nat) c fl, S[j]? = some (.ins c fl) → (frostF n ((k, d) :: rest) S).2[j]? = some (.ins c fl) := by
      intro S1 d1 g1 l1 em r1 ry1 k1 low ins e
      obtain ⟨g', l', em', r', h', k', low', ins'⟩ := frost_ok r1 (hr.mono l1)
      rw [e]
      exact ⟨g', l1.trans l', em'.trans em, r', RepF.consF (ry1.mono l') h', k1.trans k', fun j hj => (low' j hj).trans (low j hj), fun j c fl hh => ins' j c fl (ins j c fl hh)⟩
    have same : ∀ (e : frostF n ((k, d) :: rest) S = ((k, d) :: (frostF n rest S).1, (frostF n rest S).2)), ∃ g', g.le g' ∧ g'.m = g.m ∧ SRel K mg g' (frostF n ((k, d) :: rest) S).2 H ∧ RepF K mg g' (frostF n ((k, d) :: rest) S).1 ((nm k, y) :: fv') ∧ KFr S (frostF n ((k, d) :: rest) S).2 ∧ (∀ j : Nat, j < n → (frostF n ((k, d) :: rest) S).2[j]? = S[j]?) ∧ ∀ (j : Nat) c fl, S[j]? = some (.ins c fl) → (frostF n ((k, d) :: rest) S).2[j]? = some (.ins c fl) :=
      fun e => go S d g (.refl g) rfl r ry (.refl S) (fun _ _ => rfl) (fun _ _ _ h => h) e
    cases d with
    | ref j =>
      by_cases hj : n ≤ j
      · cases hS : S[j]? with
        | none => exact same (by simp [frostF, frostD, hj, hS])
        | some o =>
          cases o with
          | dead => exact same (by simp [frostF, frostD, hj, hS])
          | ins c fs => exact same (by simp [frostF, frostD, hj, hS])
          | lst w xs =>
            cases ry with
            | @ref _ a hm =>
              obtain ⟨hF, vs, ha, hx⟩ := r.ob _ _ _ hS hm
              refine go (S.set j .dead) (.lst xs) (g.frz a (.lst vs)) (Gh.le_frz hF) rfl (r.frost hS rfl hm ha) ((hx.mono (Gh.le_frz hF)).lst (by show upd g.F a _ a = _; exact upd_same)) ((KFr.refl S).set hS (.inr fun _ _ => rfl)) (fun i hi => List.getElem?_set_ne (by omega)) (fun i c fl hh => by rw [List.getElem?_set_ne (fun q => by rw [← q, hS] at hh; cases hh)]; exact hh) ?_
              simp [frostF, frostD, hj, hS]
      · exact same (by simp [frostF, frostD, hj])
    | _ => exact same rfl
theorem re_new {c : String} {x : Str} {e : Expr} {es : List Expr} {p pos : Pos} {C f : Addr} {k : Nat} {fz : Bool} {init : SF} {fs : SA} (M : Mk X.K C f) (Cl : Callee X f (k + 1) List.dropLast init 1) (hx : x = nm c) (hg : Gl X x) (hm : X.mg x = some (.ref C))
    (ha : RA X (e :: es) fs) (hdb : (x == ("__debug__" : Str)) = false := by decide) (he : starEach (e :: es) X.env = (false, eval e X.env) :: starEach es X.env := by rfl) (hpl : (backTo pos (starEach es X.env)).any (·.1) = false := by rfl) :
    RE X (.Call (.Name x p) (e :: es) [] pos) (newM c k fz init fs) := fun W ok => by
  obtain ⟨fd, ps, lvl, F, b, hr⟩ := Cl
  refine ⟨fun pins s σ H Q I h => ?_⟩
  refine wpAny_Call_Name_kw (ld_glob I hg hm ?_ hdb)
  obtain ⟨g, S0, en, S, rel, q⟩ := h
  refine PySem.W.callWith_K (h₀ := X.base) I.ok.mod.kin M.kp (thn ((ha W ok).run pos pins s σ H (fun vs H1 => ∀ x dx, H1 x = none → H1 dx = none → dx ≠ x → spI X.K X.mg (k + 1) List.dropLast init (.ref x :: vs) (upd (upd H1 dx (.own x)) x (.ins C dx [])) (fun v H2 => v = .non ∧ Q (.ref x) H2) (WE W σ)) I
    ⟨g, S0, en, S, rel, q.bind.imp (fun _ t => t) fun g1 xs e1 S1 σ1 H1 t1 l1 rel1 q1 vs rvs a dx ha hdx hne => ?_⟩) fun us s1 ⟨vs, H1, I1, r, q⟩ => ⟨I1.kIn, ?_⟩) he hpl
  · subst t1
    by_cases hl : xs.length = k
    · rw [if_pos hl] at q1
      -- the new object
      have r0 : SRel X.K X.mg g1 S1 (upd H1 dx (.own a)) := rel1.st.heap fun b u hb => by
        rw [upd_ne (fun q => by rw [q, hdx] at hb; cases hb)]; exact hb
      have ha' : upd H1 dx (.own a) a = none := by rw [upd_ne (Ne.symm hne)]; exact ha
      have hmc : X.mg (nm c) = some (.ref C) := by rw [← hx]; exact hm
      have rN := r0.new (o := .ins C dx []) (ob := .ins c []) ha' rfl ⟨r0.fresh ha', C, dx, [], hmc, upd_same, RepF.nil⟩
      have hid : (g1.new a).m[S1.length]? = some a := by
        show (g1.m ++ [a])[S1.length]? = some a
        rw [← rel1.st.len, List.getElem?_append_right (Nat.le_refl _)]
        simp
      refine sp_of (S := S1) rN (fun S' hk => by rw [List.dropLast_concat] at hk; exact hk) (by simp [hl]) (.cons (.ref hid) (rvs.mono Gh.le_new)) ?_
      revert q1
      cases init (.ref S1.length :: xs) (S1 ++ [.ins c []]) with
      | stuck => exact fun q => q.elim
      | exc c' fl e2 S2 =>
        intro q g' H' cls d l r kf x
        dsimp only at q
        by_cases hlf : limF 0 fl = true
        · rw [if_pos hlf] at q
          have lg := Gh.le_new.trans l
          obtain ⟨rB, lB, kB⟩ := rel1.st.back lg r kf
          refine q _ σ1 H' cls d rfl lB (rel1.move lB rB kB) ?_
          obtain ⟨C', h1, h2, h3 | ⟨dd, fv, h3, h4, h5⟩⟩ := x
          · exact ⟨C', h1, h2, .inl h3⟩
          · exact ⟨C', h1, h2, .inr ⟨dd, fv, h3, h4, h5.cut hlf (Nat.zero_le _)⟩⟩
        · rw [if_neg hlf] at q
          exact q.elim
      | ok d e2 S2 =>
        intro q g' H' v l r kf rv
        have lg := Gh.le_new.trans l
        cases d with
        | non =>
          cases rv
          refine ⟨rfl, ?_⟩
          dsimp only at q
          cases fz with
          | false =>
            rw [if_neg Bool.false_ne_true] at q
            exact q g' σ1 H' rfl lg (rel1.move lg r kf) _ (.ref (l.m _ _ hid))
          | true =>
            rw [if_pos rfl] at q
            cases hS : S2[S1.length]? with
            | none => rw [hS] at q; exact q.elim
            | some o =>
              rw [hS] at q
              cases o with
              | ins c' fl =>
                dsimp only at q
                have hid' := l.m _ _ hid
                obtain ⟨hF, C', dx', fv', m1, m2, m3⟩ := r.ob _ _ _ hS hid'
                obtain ⟨g3, l3, em, r3, f3, k3, low, ins⟩ := frost_ok (n := S1.length) r m3
                by_cases hlim : limF S1.length (frostF S1.length fl S2).1 = true
                · rw [if_pos hlim] at q
                  -- the object itself
                  have hS3 : (frostF S1.length fl S2).2[S1.length]? = some (.ins c' fl) := ins _ _ _ hS
                  have hid3 := l3.m _ _ hid'
                  obtain ⟨hF3, _⟩ := r3.ob _ _ _ hS3 hid3
                  have r4 := r3.frost hS3 rfl hid3 m2
                  have l4 : g3.le (g3.frz a (.ins C' dx' fv')) := Gh.le_frz hF3
                  have k4 : KFr S1 ((frostF S1.length fl S2).2.set S1.length .dead) := ((kf.trans k3).set hS3 (.inl (Nat.le_refl _)))
                  obtain ⟨rB, lB, kB⟩ := rel1.st.back ((lg.trans l3).trans l4) r4 k4
                  have eT : ((frostF S1.length fl S2).2.set S1.length .dead).take S1.length = S2.take S1.length := by
                    refine List.ext_getElem? fun j => ?_
                    rw [List.getElem?_take, List.getElem?_take]
                    split
                    · rename_i hj
                      rw [List.getElem?_set_ne (by omega), low j hj]
                    · rfl
                  rw [eT] at rB kB
                  have f4 := (f3.mono l4).cut hlim (Nat.le_refl _)
                  refine q _ σ1 H' rfl lB (rel1.move lB rB kB) _ ?_
                  exact .ins m1 (by show upd g3.F a _ a = _; exact upd_same) f4.len f4.key f4.at_
                · rw [if_neg hlim] at q
                  exact q.elim
              | dead => exact q.elim
              | lst w xs => exact q.elim
        | _ => exact q.elim
    · rw [if_neg hl] at q1
      exact q1.elim
  · exact run_makeS (E := WE W) M F hr b (passAt ok.tk σ) I1 r q
end
end Mir
end

/-! MirOps -/
section
set_option Elab.async false
set_option linter.all false
set_option maxRecDepth 100000
/-! MirOps: the operations on values. -/
namespace Mir
open PySem L2

section
variable {K : PySem.W.Frag} {mg : Str → Option Value} {g : Gh} {S : Sto} {H : Hp}
/-! ### Now: inversion -/
theorem Now.int {i : Int} {v : V} (h : Now K mg g H (.int i) v) : v = .int i := by
  cases h with
  | rep _ h => cases h; rfl
theorem Now.str {s : List Nat} {v : V} (h : Now K mg g H (.str s) v) : v = .str (mkS s) := by
  cases h with
  | rep _ h => cases h; rfl
theorem Now.byt {s : List Nat} {v : V} (h : Now K mg g H (.byt s) v) : v = .byt (mkB s) ∧ ∀ x ∈ s, x < 256 := by
  cases h with
  | rep _ h => cases h with | byt hb => exact ⟨rfl, hb⟩
theorem Now.of_lst {xs : List D} {v : V} (h : Now K mg g H (.lst xs) v) : ∃ a vs, v = .ref a ∧ H a = some (.lst vs) ∧ Reps K mg g xs vs := by
  cases h with
  | lst h1 h2 => exact ⟨_, _, rfl, h1, h2⟩
  | rep n _ => exact absurd rfl (n _)
theorem Now.of_frz (r : SRel K mg g S H) {xs : List D} {v : V} (h : Now K mg g H (.frz xs) v) : ∃ a vs, v = .ref a ∧ SqL K H a vs ∧ Reps K mg g xs vs := by
  cases h with
  | rep _ h =>
    obtain ⟨a, vs, h1, h2, h3⟩ := Reps.of_frz h
    exact ⟨a, vs, h1, sub_SqL r h2, h3⟩
theorem Now.of_tup (r : SRel K mg g S H) {xs : List D} {v : V} (h : Now K mg g H (.tup xs) v) : ∃ a vs, v = .ref a ∧ SqT K H a vs ∧ Reps K mg g xs vs := by
  cases h with
  | rep _ h =>
    obtain ⟨a, vs, h1, h2, h3⟩ := Reps.of_tup h
    exact ⟨a, vs, h1, sub_SqT r h2, h3⟩
theorem mkS_app (a b : List Nat) : mkS a ++ mkS b = mkS (a ++ b) := by
  show Str.mk (a.toArray ++ b.toArray) = Str.mk _
  rw [List.append_toArray]
theorem mkB_app (a b : List Nat) : mkB a ++ mkB b = mkB (a ++ b) := by
  unfold mkB
  rw [List.map_append, List.append_toArray]
/-- a new frozen list -/
theorem newLst (r : SRel K mg g S H) {xs : List D} {vs : List V} (h : Reps K mg g xs vs) {Q : VK} (q : ∀ g' H' w, Ext K mg g H g' H' → Rep K mg g' (.lst xs) w → Q w H') {p : Addr} (hp : H p = none) : Q (.ref p) (upd H p (.lst vs)) := by
  have x := Ext.frz (o := .lst vs) r hp
  exact q _ _ _ x ((h.mono x.le).lst (by show upd g.F p _ p = _; exact upd_same))
theorem newTup (r : SRel K mg g S H) {xs : List D} {vs : List V} (h : Reps K mg g xs vs) {Q : VK} (q : ∀ g' H' w, Ext K mg g H g' H' → Rep K mg g' (.tup xs) w → Q w H') {p : Addr} (hp : H p = none) : Q (.ref p) (upd H p (.tup vs)) := by
  have x := Ext.frz (o := .tup vs) r hp
  exact q _ _ _ x ((h.mono x.le).tup (.inl (.inl (by show upd g.F p _ p = _; exact upd_same))))
end
section
variable {X : Cx}
/-! ### + -/
def rAddS : R2 := fun x y H Q => (∃ i j, x = .int i ∧ y = .int j ∧ Q (.int (i + j)) H) ∨ (∃ i j, x = .str i ∧ y = .str j ∧ i.length + j.length ≤ sizeLine ∧ Q (.str (i ++ j)) H) ∨ (∃ i j, x = .byt i ∧ y = .byt j ∧ i.size + j.size ≤ 16777216 ∧ Q (.byt (i ++ j)) H) ∨ rCat x y H Q
theorem op_addS : OpR X (binaryOp .Add) rAddS := op_add.or (op_add_str.or (op_add_byt.or op_cat))
theorem ol_add : OpL X.K X.mg addS rAddS := fun g S H x y z v u Q r hx hy hz q => by
  have nx := Now.of r hx
  have ny := Now.of r hy
  unfold addS at hz
  revert hz nx ny
  generalize deref S x = x'
  generalize deref S y = y'
  intro hz nx ny
  split at hz
  · cases hz
    exact .inl ⟨_, _, nx.int, ny.int, q g H _ (.refl g H) .int⟩
  · split at hz
    · rename_i hl
      cases hz
      refine .inr (.inl ⟨_, _, nx.str, ny.str, by rw [mkS_len, mkS_len, ← line_eq]; exact hl, ?_⟩)
      rw [mkS_app]
      exact q g H _ (.refl g H) .str
    · cases hz
  · split at hz
    · rename_i hl
      cases hz
      obtain ⟨e1, b1⟩ := nx.byt
      obtain ⟨e2, b2⟩ := ny.byt
      refine .inr (.inr (.inl ⟨_, _, e1, e2, by rw [mkB_len, mkB_len]; exact hl, ?_⟩))
      rw [mkB_app]
      exact q g H _ (.refl g H) (.byt fun x hx => (List.mem_append.mp hx).elim (b1 x) (b2 x))
    · cases hz
  · split at hz
    · rename_i hl
      cases hz
      obtain ⟨a, vs, rfl, h1, h2⟩ := nx.of_lst
      obtain ⟨b, us, rfl, h3, h4⟩ := ny.of_lst
      exact .inr (.inr (.inr ⟨a, b, vs, us, rfl, rfl, h1, h3, by rw [h2.len, h4.len, ← line_eq]; exact hl, fun p hp => newLst r (h2.append h4) q hp⟩))
    · cases hz
  · cases hz
theorem re_add {a b : Expr} {pos : Pos} {fa fb : SE} (ha : RE X a fa) (hb : RE X b fb) : RE X (.BinOp a .Add b pos) (op2 addS fa fb) := re_op op_addS ol_add ha hb
/-- two twoI -/
theorem twoI {f : Sto → D → D → Option D} {C : Int → Int → Prop} {h : Int → Int → Int} (hf : ∀ S x y z, f S x y = some z → ∃ i j, x = .int i ∧ y = .int j ∧ C i j ∧ z = .int (h i j)) : OpL X.K X.mg f (rI C fun i j => .int (h i j)) := fun g S H x y z v u Q r hx hy hz q => by
  obtain ⟨i, j, rfl, rfl, hc, rfl⟩ := hf S x y z hz
  cases hx
  cases hy
  exact ⟨i, j, rfl, rfl, hc, q g H _ (.refl g H) .int⟩
theorem twoI0 {f : Sto → D → D → Option D} {h : Int → Int → Int} (hf : ∀ S x y z, f S x y = some z → ∃ i j, x = .int i ∧ y = .int j ∧ z = .int (h i j)) : OpL X.K X.mg f (rI0 fun i j => .int (h i j)) := fun g S H x y z v u Q r hx hy hz q => by
  obtain ⟨i, j, rfl, rfl, rfl⟩ := hf S x y z hz
  cases hx
  cases hy
  exact ⟨i, j, rfl, rfl, q g H _ (.refl g H) .int⟩
theorem twoIB {f : Sto → D → D → Option Bool} {h : Int → Int → Bool} (hf : ∀ S x y k, f S x y = some k → ∃ i j, x = .int i ∧ y = .int j ∧ k = h i j) : OpB X.K X.mg f (rI0 fun i j => .bl (h i j)) := fun g S H x y k v u Q r hx hy hz q => by
  obtain ⟨i, j, rfl, rfl, rfl⟩ := hf S x y k hz
  cases hx
  cases hy
  exact ⟨i, j, rfl, rfl, q⟩
theorem re_sub {a b : Expr} {pos : Pos} {fa fb : SE} (ha : RE X a fa) (hb : RE X b fb) : RE X (.BinOp a .Sub b pos) (op2 subS fa fb) := re_op op_sub (twoI0 fun S x y z h => by
  unfold subS at h
  split at h
  · cases h; exact ⟨_, _, rfl, rfl, rfl⟩
  · cases h) ha hb
theorem two64_eq : two64 = 2 ^ 64 := by decide
theorem re_fdiv {a b : Expr} {pos : Pos} {fa fb : SE} (ha : RE X a fa) (hb : RE X b fb) : RE X (.BinOp a .FloorDiv b pos) (op2 fdivS fa fb) := re_op op_fdivW (twoI fun S x y z h => by
  unfold fdivS at h
  split at h
  · rename_i i j
    split at h
    · rename_i hc
      cases h
      refine ⟨_, _, rfl, rfl, wide_div (b := 64) hc.1 ?_ (by decide) (by decide), rfl⟩
      have h2 := hc.2
      rw [two64_eq] at h2
      omega
    · cases h
  · cases h) ha hb
theorem re_mod {a b : Expr} {pos : Pos} {fa fb : SE} (ha : RE X a fa) (hb : RE X b fb) : RE X (.BinOp a .Mod b pos) (op2 modS fa fb) := re_op op_mod (twoI fun S x y z h => by
  unfold modS at h
  split at h
  · split at h
    · rename_i hc
      cases h
      exact ⟨_, _, rfl, rfl, hc, rfl⟩
    · cases h
  · cases h) ha hb
theorem re_pow {a b : Expr} {pos : Pos} {fa fb : SE} (ha : RE X a fa) (hb : RE X b fb) : RE X (.BinOp a .Pow b pos) (op2 powS fa fb) := re_op op_pow (twoI fun S x y z h => by
  unfold powS at h
  split at h
  · split at h
    · rename_i hc
      cases h
      refine ⟨_, _, rfl, rfl, ⟨hc.1.1, hc.1.2, ?_⟩, rfl⟩
      have h2 := hc.2
      rw [two64_eq] at h2
      omega
    · cases h
  · cases h) ha hb
def bandS (_ : Sto) (x y : D) : Option D := match x, y with
  | .int i, .int j => some (.int (Builtin.bitAnd i j))
  | _, _ => none
def shrS (_ : Sto) (x y : D) : Option D := match x, y with
  | .int i, .int j => if 0 ≤ j then some (.int (i / 2 ^ j.toNat)) else none
  | _, _ => none
theorem re_band {a b : Expr} {pos : Pos} {fa fb : SE} (ha : RE X a fa) (hb : RE X b fb) : RE X (.BinOp a .BitAnd b pos) (op2 bandS fa fb) := re_op op_and (twoI0 fun S x y z h => by
  unfold bandS at h
  split at h
  · cases h; exact ⟨_, _, rfl, rfl, rfl⟩
  · cases h) ha hb
theorem re_shr {a b : Expr} {pos : Pos} {fa fb : SE} (ha : RE X a fa) (hb : RE X b fb) : RE X (.BinOp a .RShift b pos) (op2 shrS fa fb) := re_op op_shr (twoI fun S x y z h => by
  unfold shrS at h
  split at h
  · split at h
    · rename_i hc
      cases h
      exact ⟨_, _, rfl, rfl, hc, rfl⟩
    · cases h
  · cases h) ha hb
/-! ### * -/
theorem Reps.rep {K : PySem.W.Frag} {mg : Str → Option Value} {g : Gh} {xs : List D} {vs : List V} (h : Reps K mg g xs vs) : ∀ n : Nat, Reps K mg g (List.replicate n xs).flatten (List.replicate n vs).flatten
  | 0 => .nil
  | n + 1 => by
    rw [List.replicate_succ, List.replicate_succ, List.flatten_cons, List.flatten_cons]
    exact h.append (h.rep n)
def rMulS : R2 := fun x y H Q => rI CMul (fun i j => .int (i * j)) x y H Q ∨ rRep x y H Q
theorem op_mulS : OpR X (binaryOp .Mult) rMulS := op_mul.or op_rep
theorem ol_mul : OpL X.K X.mg mulS rMulS := fun g S H x y z v u Q r hx hy hz q => by
  have nx := Now.of r hx
  unfold mulS at hz
  revert hz nx
  generalize deref S x = x'
  intro hz nx
  split at hz
  · split at hz
    · rename_i hc
      cases hz
      cases hy
      unfold mulOk at hc
      have hc' := of_decide_eq_true hc
      rw [two64_eq] at hc'
      exact .inl ⟨_, _, nx.int, rfl, hc', q g H _ (.refl g H) .int⟩
    · cases hz
  · split at hz
    · rename_i hc
      cases hz
      cases hy
      obtain ⟨a, vs, rfl, h1, h2⟩ := nx.of_lst
      refine .inr ⟨a, _, vs, rfl, rfl, h1, by have := hc.1.1; omega, by have := hc.1.2; omega, by rw [h2.len, ← line_eq]; exact hc.2, fun p hp => newLst r (h2.rep _) q hp⟩
    · cases hz
  · cases hz
theorem re_mul {a b : Expr} {pos : Pos} {fa fb : SE} (ha : RE X a fa) (hb : RE X b fb) : RE X (.BinOp a .Mult b pos) (op2 mulS fa fb) := re_op op_mulS ol_mul ha hb
theorem re_neg {a : Expr} {pos : Pos} {fa : SE} (ha : RE X a fa) : RE X (.UnaryOp .USub a pos) (op1 negS fa) := re_un un_neg (fun g S H x z v Q r hx hz q => by
  unfold negS at hz
  split at hz
  · cases hz
    cases hx
    exact ⟨_, rfl, q g H _ (.refl g H) .int⟩
  · cases hz) ha

/-! ### comparisons -/
theorem ob_lt : OpB X.K X.mg ltS (rI0 fun i j => .bl (decide (i < j))) := twoIB fun S x y k h => by
  unfold ltS at h
  split at h
  · cases h; exact ⟨_, _, rfl, rfl, rfl⟩
  · cases h
theorem ob_le : OpB X.K X.mg leS (rI0 fun i j => .bl (decide (i ≤ j))) := twoIB fun S x y k h => by
  unfold leS at h
  split at h
  · cases h; exact ⟨_, _, rfl, rfl, rfl⟩
  · cases h
theorem ob_gt : OpB X.K X.mg gtS (rI0 fun i j => .bl (decide (j < i))) := twoIB fun S x y k h => by
  unfold gtS at h
  split at h
  · cases h; exact ⟨_, _, rfl, rfl, rfl⟩
  · cases h
theorem ob_ge : OpB X.K X.mg geS (rI0 fun i j => .bl (decide (j ≤ i))) := twoIB fun S x y k h => by
  unfold geS at h
  split at h
  · cases h; exact ⟨_, _, rfl, rfl, rfl⟩
  · cases h
mutual
/-- a tree as the library's data -/
def toPy : D → PyData
  | .non => .none
  | .bl b => .bool b
  | .int i => .int i
  | .str s => .str (mkS s)
  | .lst xs => .list (toPyL xs)
  | .tup xs => .tuple (toPyL xs)
  | _ => .none
def toPyL : List D → List PyData
  | [] => []
  | d :: ds => toPy d :: toPyL ds
end
theorem mkS_beq (a b : List Nat) : (mkS a == mkS b) = (a == b) := by
  rw [Bool.eq_iff_iff, beq_iff_eq, beq_iff_eq]
  constructor
  · intro h
    have h1 : a.toArray = b.toArray := congrArg Str.cps h
    simpa using h1
  · intro h; rw [h]
mutual
theorem toPy_eqv : ∀ (n m : Nat) (x y : D), x.dataN n = true → y.dataN m = true → PyData.eqv (toPy x) (toPy y) = x.eqv y
  | n, m, .lst xs, .lst ys, hx, hy => by
    rw [D.dataN, Bool.and_eq_true_iff] at hx hy
    rw [toPy, toPy, PyData.eqv, D.eqv]
    exact toPyL_eqv _ _ xs ys hx.2 hy.2
  | n, m, .tup xs, .tup ys, hx, hy => by
    rw [D.dataN, Bool.and_eq_true_iff] at hx hy
    rw [toPy, toPy, PyData.eqv, D.eqv]
    exact toPyL_eqv _ _ xs ys hx.2 hy.2
  | n, m, .str a, .str b, _, _ => by
    rw [toPy, toPy, PyData.eqv, D.eqv, mkS_beq]
  | _, _, .non, .non, _, _ | _, _, .bl _, .bl _, _, _ | _, _, .int _, .int _, _, _ => by simp [toPy, PyData.eqv, D.eqv]
  | _, _, .bl a, .int _, _, _ => by cases a <;> simp [toPy, PyData.eqv, D.eqv, b2n]
  | _, _, .int _, .bl b, _, _ => by cases b <;> simp [toPy, PyData.eqv, D.eqv, b2n]
  | _, _, .non, .bl _, _, _ | _, _, .non, .int _, _, _ | _, _, .non, .str _, _, _ | _, _, .non, .lst _, _, _ | _, _, .non, .tup _, _, _ => by simp [toPy, PyData.eqv, D.eqv]
  | _, _, .bl _, .non, _, _ | _, _, .bl _, .str _, _, _ | _, _, .bl _, .lst _, _, _ | _, _, .bl _, .tup _, _, _ => by simp [toPy, PyData.eqv, D.eqv]
  | _, _, .int _, .non, _, _ | _, _, .int _, .str _, _, _ | _, _, .int _, .lst _, _, _ | _, _, .int _, .tup _, _, _ => by simp [toPy, PyData.eqv, D.eqv]
  | _, _, .str _, .non, _, _ | _, _, .str _, .bl _, _, _ | _, _, .str _, .int _, _, _ | _, _, .str _, .lst _, _, _ | _, _, .str _, .tup _, _, _ => by simp [toPy, PyData.eqv, D.eqv]
  | _, _, .lst _, .non, _, _ | _, _, .lst _, .bl _, _, _ | _, _, .lst _, .int _, _, _ | _, _, .lst _, .str _, _, _ | _, _, .lst _, .tup _, _, _ => by simp [toPy, PyData.eqv, D.eqv]
  | _, _, .tup _, .non, _, _ | _, _, .tup _, .bl _, _, _ | _, _, .tup _, .int _, _, _ | _, _, .tup _, .str _, _, _ | _, _, .tup _, .lst _, _, _ => by simp [toPy, PyData.eqv, D.eqv]
  | _, _, .byt _, _, h, _ | _, _, .frz _, _, h, _ | _, _, .ins _ _, _, h, _ | _, _, .exn _ _, _, h, _ | _, _, .gl _, _, h, _ | _, _, .ty _, _, h, _ | _, _, .edi, _, h, _ | _, _, .ref _, _, h, _ => by simp [D.dataN] at h
  | _, _, _, .byt _, _, h | _, _, _, .frz _, _, h | _, _, _, .ins _ _, _, h | _, _, _, .exn _ _, _, h | _, _, _, .gl _, _, h | _, _, _, .ty _, _, h | _, _, _, .edi, _, h | _, _, _, .ref _, _, h => by simp [D.dataN] at h
theorem toPyL_eqv : ∀ (n m : Nat) (xs ys : List D), dataL n xs = true → dataL m ys = true → PyData.eqvAll (toPyL xs) (toPyL ys) = eqvL xs ys
  | _, _, [], [], _, _ => by simp [toPyL, PyData.eqvAll, eqvL]
  | _, _, [], _ :: _, _, _ => by simp [toPyL, PyData.eqvAll, eqvL]
  | _, _, _ :: _, [], _, _ => by simp [toPyL, PyData.eqvAll, eqvL]
  | n, m, x :: xs, y :: ys, hx, hy => by
    rw [dataL, Bool.and_eq_true_iff] at hx hy
    rw [toPyL, toPyL, PyData.eqvAll, eqvL, toPy_eqv n m x y hx.1 hy.1, toPyL_eqv n m xs ys hx.2 hy.2]
end
mutual
theorem toPy_ok : ∀ (n : Nat) (x : D), x.dataN n = true → (toPy x).canLay0 = true ∧ (toPy x).depth ≤ n
  | n, .lst xs, h => by
    rw [D.dataN, Bool.and_eq_true_iff] at h
    have h0 := of_decide_eq_true h.1
    obtain ⟨h1, h2⟩ := toPyL_ok _ xs h.2
    exact ⟨by rw [toPy, PyData.canLay0]; exact h1, by rw [toPy, PyData.depth]; omega⟩
  | n, .tup xs, h => by
    rw [D.dataN, Bool.and_eq_true_iff] at h
    have h0 := of_decide_eq_true h.1
    obtain ⟨h1, h2⟩ := toPyL_ok _ xs h.2
    exact ⟨by rw [toPy, PyData.canLay0]; exact h1, by rw [toPy, PyData.depth]; omega⟩
  | n, .str s, h => by
    rw [D.dataN] at h
    refine ⟨?_, by rw [toPy, PyData.depth]; omega⟩
    rw [toPy, PyData.canLay0]
    show (s.toArray.all fun x => decide (x < 0x110000)) = true
    rw [List.all_toArray]
    exact h
  | n, .non, _ | n, .bl _, _ | n, .int _, _ => by simp [toPy, PyData.canLay0, PyData.depth]
  | _, .byt _, h | _, .frz _, h | _, .ins _ _, h | _, .exn _ _, h | _, .gl _, h | _, .ty _, h | _, .edi, h | _, .ref _, h => by simp [D.dataN] at h
theorem toPyL_ok : ∀ (n : Nat) (xs : List D), dataL n xs = true → PyData.canLayAll0 (toPyL xs) = true ∧ PyData.depthAll (toPyL xs) ≤ n
  | _, [], _ => by simp [toPyL, PyData.canLayAll0, PyData.depthAll]
  | n, x :: xs, h => by
    rw [dataL, Bool.and_eq_true_iff] at h
    obtain ⟨h1, h2⟩ := toPy_ok n x h.1
    obtain ⟨h3, h4⟩ := toPyL_ok n xs h.2
    refine ⟨by rw [toPyL, PyData.canLayAll0, h1, h3]; rfl, by rw [toPyL, PyData.depthAll]; omega⟩
end
theorem Rep.dp {K : PySem.W.Frag} {mg : Str → Option Value} {g : Gh} {S : Sto} {H : Hp} (r : SRel K mg g S H) {d : D} {v : V} (h : Rep K mg g d v) : ∀ n : Nat, d.dataN n = true → Dp K H v (toPy d) := by
  have all : ∀ (n : Nat) (ds : List D) (vs : List V), vs.length = ds.length → (∀ (i : Nat) d v, ds[i]? = some d → vs[i]? = some v → ∀ n : Nat, d.dataN n = true → Dp K H v (toPy d)) → dataL n ds = true → DpAll K H vs (toPyL ds) := by
    intro n ds
    induction ds with
    | nil =>
      intro vs hl _ _
      rw [List.eq_nil_of_length_eq_zero hl, toPyL]
      exact .nil
    | cons a ds ih =>
      intro vs hl ha hd
      cases vs with
      | nil => simp at hl
      | cons v vs =>
        rw [dataL, Bool.and_eq_true_iff] at hd
        rw [toPyL]
        exact .cons (ha 0 a v rfl rfl n hd.1) (ih vs (by simpa using hl) (fun i d v e1 e2 => ha (i + 1) d v (by simpa using e1) (by simpa using e2)) hd.2)
  induction h with
  | non => intro _ _; rw [toPy]; exact .non
  | bl => intro _ _; rw [toPy]; exact .bl _
  | int => intro _ _; rw [toPy]; exact .int _
  | str => intro _ _; rw [toPy]; exact .str _
  | lst h1 h2 _ ih =>
    intro n hn
    rw [D.dataN, Bool.and_eq_true_iff] at hn
    rw [toPy]
    exact .lst (SqL.of (r.sub _ _ h1)) (all _ _ _ h2 ih hn.2)
  | tup h1 h2 _ ih =>
    intro n hn
    rw [D.dataN, Bool.and_eq_true_iff] at hn
    rw [toPy]
    exact .tup (sub_SqT r h1) (all _ _ _ h2 ih hn.2)
  | _ => intro _ hn; simp [D.dataN] at hn
theorem Now.dp {K : PySem.W.Frag} {mg : Str → Option Value} {g : Gh} {S : Sto} {H : Hp} (r : SRel K mg g S H) {d : D} {v : V} (h : Now K mg g H d v) {n : Nat} (hn : d.dataN n = true) : Dp K H v (toPy d) := by
  cases h with
  | @lst a vs ds h1 h2 =>
    have all : ∀ (ds : List D) (vs : List V), Reps K mg g ds vs → dataL (n - 1) ds = true → DpAll K H vs (toPyL ds) := by
      intro ds
      induction ds with
      | nil => intro vs hr _; rw [hr.inv0, toPyL]; exact .nil
      | cons a ds ih =>
        intro vs hr hd
        obtain ⟨v, vs', rfl, r1, r2⟩ := hr.inv
        rw [dataL, Bool.and_eq_true_iff] at hd
        rw [toPyL]
        exact .cons (r1.dp r _ hd.1) (ih vs' r2 hd.2)
    rw [D.dataN, Bool.and_eq_true_iff] at hn
    rw [toPy]
    exact .lst (SqL.of h1) (all _ _ h2 hn.2)
  | rep _ h => exact h.dp r _ hn
theorem mkB_inj {a b : List Nat} (ha : ∀ x ∈ a, x < 256) (hb : ∀ x ∈ b, x < 256) (h : mkB a = mkB b) : a = b := by
  have h1 : a.map UInt8.ofNat = b.map UInt8.ofNat := by simpa [mkB] using h
  have h2 : (a.map UInt8.ofNat).map UInt8.toNat = (b.map UInt8.ofNat).map UInt8.toNat := by rw [h1]
  have z : ∀ l : List Nat, (∀ x ∈ l, x < 256) → (l.map UInt8.ofNat).map UInt8.toNat = l := by
    intro l
    induction l with
    | nil => intro _; rfl
    | cons x l ih =>
      intro h
      rw [List.map_cons, List.map_cons, ih fun y hy => h y (List.mem_cons_of_mem _ hy)]
      have : (UInt8.ofNat x).toNat = x := by simp [UInt8.toNat_ofNat', Nat.mod_eq_of_lt (h x List.mem_cons_self)]
      rw [this]
  rw [z a ha, z b hb] at h2
  exact h2
def rEqS (K : PySem.W.Frag) : R2 := fun x y H Q => rEqD K x y H Q ∨ rEq x y H Q
def rNeS (K : PySem.W.Frag) : R2 := fun x y H Q => rNeD K x y H Q ∨ rNe x y H Q
theorem ob_eqne (neg : Bool) : OpB X.K X.mg (fun S x y => (eqS S x y).map fun k => if neg then !k else k) (if neg then rNeS X.K else rEqS X.K) := fun g S H x y k v u Q r hx hy hz q => by
  have nx := Now.of r hx
  have ny := Now.of r hy
  dsimp only at hz
  cases hk : eqS S x y with
  | none => rw [hk] at hz; cases hz
  | some k0 =>
    rw [hk] at hz
    have hz' : (if neg then !k0 else k0) = k := Option.some.inj hz
    unfold eqS eqD at hk
    revert hk nx ny
    generalize deref S x = x'
    generalize deref S y = y'
    intro nx ny hk
    split at hk
    · rename_i hd
      rw [Bool.and_eq_true_iff] at hd
      cases hk
      have d1 := nx.dp r hd.1
      have d2 := ny.dp r hd.2
      have e := toPy_eqv 16 16 x' y' hd.1 hd.2
      obtain ⟨c1, p1⟩ := toPy_ok 16 x' hd.1
      obtain ⟨c2, p2⟩ := toPy_ok 16 y' hd.2
      have s1 : SeqAt.shaped (toPy x') = true := by unfold SeqAt.shaped; rw [c1, decide_eq_true (Nat.le_trans p1 (by decide))]; rfl
      have s2 : SeqAt.shaped (toPy y') = true := by unfold SeqAt.shaped; rw [c2, decide_eq_true (Nat.le_trans p2 (by decide))]; rfl
      cases neg with
      | true =>
        refine .inl ⟨_, _, d1, d2, s1, s2, ?_⟩
        rw [e]
        rw [← hz'] at q
        exact q
      | false =>
        refine .inl ⟨_, _, d1, d2, s1, s2, ?_⟩
        rw [e]
        rw [← hz'] at q
        exact q
    · split at hk
      · rename_i a b _
        cases hk
        obtain ⟨e1, b1⟩ := nx.byt
        obtain ⟨e2, b2⟩ := ny.byt
        subst e1
        subst e2
        have e : decide (V.byt (mkB a) = V.byt (mkB b)) = decide (a = b) := by
          by_cases h : a = b
          · subst h; simp
          · rw [decide_eq_false h, decide_eq_false]
            intro q
            injection q with q
            exact h (mkB_inj b1 b2 q)
        cases neg with
        | true =>
          refine .inr ⟨rfl, ?_⟩
          rw [e]
          rw [← hz'] at q
          exact q
        | false =>
          refine .inr ⟨rfl, ?_⟩
          rw [e]
          rw [← hz'] at q
          exact q
      · cases hk
theorem ob_eq : OpB X.K X.mg eqS (rEqS X.K) := fun g S H x y k v u Q r hx hy hz q => ob_eqne false g S H x y k v u Q r hx hy (by show (eqS S x y).map _ = _; rw [hz]; rfl) q
theorem ob_ne : OpB X.K X.mg neS (rNeS X.K) := fun g S H x y k v u Q r hx hy hz q => ob_eqne true g S H x y k v u Q r hx hy hz q
theorem op_eqS (hu : X.A.units + 64 < cLine) : OpR X (compareOp .Eq) (rEqS X.K) := (op_eqD hu).or op_eq
theorem op_neS (hu : X.A.units + 64 < cLine) : OpR X (compareOp .NotEq) (rNeS X.K) := (op_neD hu).or op_ne
theorem Rep.isNone {K : PySem.W.Frag} {mg : Str → Option Value} {g : Gh} {d : D} {v : V} (h : Rep K mg g d v) (hg : isGl d = false) : decide (v = .non) = isNoneD d := by
  cases h with
  | gl h r => simp [isGl] at hg
  | _ => first | rfl | (simp [isNoneD])
theorem ob_is : OpB X.K X.mg isS (fun x y H Q => y = .non ∧ Q (.bl (decide (x = .non))) H) := fun g S H x y k v u Q r hx hy hz q => by
  unfold isS at hz
  split at hz
  · split at hz
    · cases hz
    · rename_i hg
      cases hz
      cases hy
      exact ⟨rfl, by rw [hx.isNone (by simpa using hg)]; exact q⟩
  · cases hz
theorem ob_not : OpB X.K X.mg notS (fun x y H Q => y = .non ∧ Q (.bl (!decide (x = .non))) H) := fun g S H x y k v u Q r hx hy hz q => by
  unfold notS at hz
  split at hz
  · split at hz
    · cases hz
    · rename_i hg
      cases hz
      cases hy
      exact ⟨rfl, by rw [hx.isNone (by simpa using hg)]; exact q⟩
  · cases hz
section
variable {a b : Expr} {pos : Pos} {fa fb : SE}
theorem rt_lt (ha : RE X a fa) (hb : RE X b fb) : RT X (.Compare a [.Lt] [b] pos) (cmpT ltS fa fb) := rt_cmp op_lt ob_lt ha hb (nomark _)
theorem rt_le (ha : RE X a fa) (hb : RE X b fb) : RT X (.Compare a [.LtE] [b] pos) (cmpT leS fa fb) := rt_cmp op_le ob_le ha hb (nomark _)
theorem rt_gt (ha : RE X a fa) (hb : RE X b fb) : RT X (.Compare a [.Gt] [b] pos) (cmpT gtS fa fb) := rt_cmp op_gt ob_gt ha hb (nomark _)
theorem rt_ge (ha : RE X a fa) (hb : RE X b fb) : RT X (.Compare a [.GtE] [b] pos) (cmpT geS fa fb) := rt_cmp op_ge ob_ge ha hb (nomark _)
theorem rt_eq (ha : RE X a fa) (hb : RE X b fb) : RT X (.Compare a [.Eq] [b] pos) (cmpT eqS fa fb) := fun W ok => rt_cmp (op_eqS ok.hu) ob_eq ha hb (nomark _) W ok
theorem rt_ne (ha : RE X a fa) (hb : RE X b fb) : RT X (.Compare a [.NotEq] [b] pos) (cmpT neS fa fb) := fun W ok => rt_cmp (op_neS ok.hu) ob_ne ha hb (nomark _) W ok
theorem rt_is (ha : RE X a fa) (hb : RE X b fb) : RT X (.Compare a [.Is] [b] pos) (cmpT isS fa fb) := rt_cmp op_isN ob_is ha hb (nomark _)
theorem rt_isnot (ha : RE X a fa) (hb : RE X b fb) : RT X (.Compare a [.IsNot] [b] pos) (cmpT notS fa fb) := rt_cmp op_notN ob_not ha hb (nomark _)
theorem re_lt (ha : RE X a fa) (hb : RE X b fb) : RE X (.Compare a [.Lt] [b] pos) (boolM (cmpT ltS fa fb)) := re_cmp op_lt ob_lt ha hb (nomark _)
theorem re_le (ha : RE X a fa) (hb : RE X b fb) : RE X (.Compare a [.LtE] [b] pos) (boolM (cmpT leS fa fb)) := re_cmp op_le ob_le ha hb (nomark _)
theorem re_gt (ha : RE X a fa) (hb : RE X b fb) : RE X (.Compare a [.Gt] [b] pos) (boolM (cmpT gtS fa fb)) := re_cmp op_gt ob_gt ha hb (nomark _)
theorem re_ge (ha : RE X a fa) (hb : RE X b fb) : RE X (.Compare a [.GtE] [b] pos) (boolM (cmpT geS fa fb)) := re_cmp op_ge ob_ge ha hb (nomark _)
theorem re_eq (ha : RE X a fa) (hb : RE X b fb) : RE X (.Compare a [.Eq] [b] pos) (boolM (cmpT eqS fa fb)) := fun W ok => re_cmp (op_eqS ok.hu) ob_eq ha hb (nomark _) W ok
theorem re_ne (ha : RE X a fa) (hb : RE X b fb) : RE X (.Compare a [.NotEq] [b] pos) (boolM (cmpT neS fa fb)) := fun W ok => re_cmp (op_neS ok.hu) ob_ne ha hb (nomark _) W ok
theorem re_is (ha : RE X a fa) (hb : RE X b fb) : RE X (.Compare a [.Is] [b] pos) (boolM (cmpT isS fa fb)) := re_cmp op_isN ob_is ha hb (nomark _)
theorem re_isnot (ha : RE X a fa) (hb : RE X b fb) : RE X (.Compare a [.IsNot] [b] pos) (boolM (cmpT notS fa fb)) := re_cmp op_notN ob_not ha hb (nomark _)
/-- how a comparison stands in a chain -/
def ChR (X : Cx) (op : CmpOp) (f : Sto → D → D → Option Bool) : Prop := ∃ r, OpR X (compareOp op) r ∧ OpB X.K X.mg f r
theorem ch_lt : ChR X .Lt ltS := ⟨_, op_lt, ob_lt⟩
theorem ch_le : ChR X .LtE leS := ⟨_, op_le, ob_le⟩
theorem ch_gt : ChR X .Gt gtS := ⟨_, op_gt, ob_gt⟩
theorem ch_ge : ChR X .GtE geS := ⟨_, op_ge, ob_ge⟩
theorem ch_eq (hu : X.A.units + 64 < cLine) : ChR X .Eq eqS := ⟨_, op_eqS hu, ob_eq⟩
theorem rt_ch {c : Expr} {op op' : CmpOp} {fc : SE} {f f' : Sto → D → D → Option Bool} (h : ChR X op f) (h' : ChR X op' f') (ha : RE X a fa) (hb : RE X b fb) (hc : RE X c fc) (hm : lastMarks [op, op'] [b, c] = false := by with_unfolding_all rfl) : RT X (.Compare a [op, op'] [b, c] pos) (chnT f f' fa fb fc) := by
  obtain ⟨r, h1, h2⟩ := h
  obtain ⟨r', h3, h4⟩ := h'
  exact rt_chn h1 h2 h3 h4 ha hb hc hm
theorem re_ch {c : Expr} {op op' : CmpOp} {fc : SE} {f f' : Sto → D → D → Option Bool} (h : ChR X op f) (h' : ChR X op' f') (ha : RE X a fa) (hb : RE X b fb) (hc : RE X c fc) (hm : lastMarks [op, op'] [b, c] = false := by with_unfolding_all rfl) : RE X (.Compare a [op, op'] [b, c] pos) (boolM (chnT f f' fa fb fc)) := by
  obtain ⟨r, h1, h2⟩ := h
  obtain ⟨r', h3, h4⟩ := h'
  exact re_chn h1 h2 h3 h4 ha hb hc hm
end
end
end Mir
end

/-! MirSeq -/
section
set_option Elab.async false
set_option linter.all false
set_option maxRecDepth 100000
/-! MirSeq: items, lengths, lists turned, isinstance, slices. -/
namespace Mir
open PySem L2

section
variable {X : Cx}
theorem ixD_eq (n : Nat) (i : Int) : ixD n i = ixN n i := rfl
theorem Reps.atI {K : PySem.W.Frag} {mg : Str → Option Value} {g : Gh} {xs : List D} {vs : List V} (h : Reps K mg g xs vs) {j : Int} {z : D} (e : ((ixD xs.length j).bind fun p => xs[p]?) = some z) : ∃ w, L2.atI vs j = some w ∧ Rep K mg g z w := by
  rw [Option.bind_eq_some_iff] at e
  obtain ⟨p, hp, hz⟩ := e
  obtain ⟨w, hw, rw'⟩ := h.get hz
  refine ⟨w, ?_, rw'⟩
  unfold L2.atI
  rw [h.len, ← ixD_eq, hp]
  exact hw
/-! ### o[i] -/
def rIxB : R2 := fun x y H Q => ∃ (z : List UInt8) (i : Int), x = .byt z.toArray ∧ y = .int i ∧ z.length ≤ sizeLine ∧ 0 ≤ i ∧ i < z.length ∧ Q (.int ((z.getD i.toNat 0).toNat : Nat)) H
theorem ix_byt : IxR X rIxB := by
  intro value slice pins s σ H x y v u Q I rx ry q hs
  obtain ⟨z, i, rfl, rfl, hz, h0, h1, q⟩ := q
  obtain ⟨t, rfl⟩ := rx
  obtain ⟨t', rfl⟩ := ry
  have hl : sizeLine = 16777216 := sizeLine_eq
  exact PyProof.Rows.tail_any (PySem.W.typeIs_bytes s z.toArray t) PySem.W.FB.slot_bytes_getitem.lookup (PySem.W.getItem_bytes (by omega) h0 h1 ⟨.int ((z.getD i.toNat 0).toNat : Nat), H, I.tok _, ⟨_, rfl⟩, q⟩) hs
def rIxA (K : PySem.W.Frag) : R2 := fun x y H Q => rIx K x y H Q ∨ rIxB x y H Q
theorem ix_any : IxR X (rIxA X.K) := ix_seq.or ix_byt
theorem ol_idx : OpL X.K X.mg idxS (rIxA X.K) := fun g S H x y z v u Q r hx hy hz q => by
  have nx := Now.of r hx
  unfold idxS at hz
  split at hz
  · rename_i j
    cases hy
    revert hz nx
    generalize deref S x = x'
    intro nx hz
    split at hz
    · obtain ⟨a, vs, rfl, h1, h2⟩ := nx.of_lst
      obtain ⟨w, hw, rw'⟩ := h2.atI hz
      exact .inl (.inl ⟨a, vs, j, w, rfl, rfl, SqL.of h1, hw, q g H w (.refl g H) rw'⟩)
    · obtain ⟨a, vs, rfl, h1, h2⟩ := nx.of_frz r
      obtain ⟨w, hw, rw'⟩ := h2.atI hz
      exact .inl (.inl ⟨a, vs, j, w, rfl, rfl, h1, hw, q g H w (.refl g H) rw'⟩)
    · obtain ⟨a, vs, rfl, h1, h2⟩ := nx.of_tup r
      obtain ⟨w, hw, rw'⟩ := h2.atI hz
      exact .inl (.inr (.inl ⟨a, vs, j, w, rfl, rfl, h1, hw, q g H w (.refl g H) rw'⟩))
    · split at hz
      · rename_i s hc
        obtain ⟨e, hb⟩ := nx.byt
        subst e
        cases hs : s[j.toNat]? with
        | none => rw [hs] at hz; cases hz
        | some c =>
          rw [hs] at hz
          cases hz
          have hlt : c < 256 := hb c (List.mem_of_getElem? hs)
          refine .inr ⟨s.map UInt8.ofNat, j, rfl, rfl, by rw [List.length_map, ← line_eq]; exact hc.1, hc.2.1, by rw [List.length_map]; exact hc.2.2, ?_⟩
          have e : ((s.map UInt8.ofNat).getD j.toNat 0).toNat = c := by
            rw [List.getD_eq_getElem?_getD, List.getElem?_map, hs]
            simp [UInt8.toNat_ofNat', Nat.mod_eq_of_lt hlt]
          rw [e]
          exact q g H _ (.refl g H) .int
      · cases hz
    · split at hz
      · rename_i s hl
        have e := nx.str
        subst e
        rw [Option.map_eq_some_iff] at hz
        obtain ⟨c, hc, rfl⟩ := hz
        refine .inl (.inr (.inr ⟨mkS s, j, c, rfl, rfl, by rw [mkS_len, ← line_eq]; exact hl, ?_, q g H _ (.refl g H) (by exact .str)⟩))
        show L2.atI s.toArray.toList j = some c
        rw [List.toList_toArray]
        exact hc
      · cases hz
    · cases hz
  · cases hz
theorem re_idx {a b : Expr} {pos : Pos} {fa fb : SE} (ha : RE X a fa) (hb : RE X b fb) (hs : PlainIx b := by exact fun _ _ => rfl) : RE X (.Subscript a b pos) (op2 idxS fa fb) := fun W ok => pe_imp (pe_ix ix_any (ha W ok) (hb W ok) hs) (two ol_idx)

/-! ### built-ins of values -/
theorem cl_len : CallL X.K X.mg lenS (fun xs H Q => ∃ x n, xs = [x] ∧ LenV X.K x H n ∧ Q (.int (n : Nat)) H) := fun g S H xs z vs Q r h hz q => by
  unfold lenS at hz
  split at hz
  · rename_i x
    obtain ⟨v, r', rfl, rv, rr⟩ := h.inv
    rw [rr.inv0]
    have nx := Now.of r rv
    revert hz nx
    generalize deref S x = x'
    intro hz nx
    split at hz
    · cases hz
      obtain ⟨a, vs, rfl, h1, h2⟩ := nx.of_lst
      exact ⟨_, vs.length, rfl, .inl ⟨vs, SqL.of h1, rfl⟩, by rw [h2.len]; exact q g H _ (.refl g H) .int⟩
    · cases hz
      obtain ⟨a, vs, rfl, h1, h2⟩ := nx.of_frz r
      exact ⟨_, vs.length, rfl, .inl ⟨vs, h1, rfl⟩, by rw [h2.len]; exact q g H _ (.refl g H) .int⟩
    · cases hz
      obtain ⟨a, vs, rfl, h1, h2⟩ := nx.of_tup r
      exact ⟨_, vs.length, rfl, .inr ⟨vs, h1, rfl⟩, by rw [h2.len]; exact q g H _ (.refl g H) .int⟩
    · split at hz
      · rename_i s hl
        cases hz
        obtain ⟨e, _⟩ := nx.byt
        subst e
        exact ⟨_, s.length, rfl, ⟨by rw [mkB_len, ← line_eq]; exact hl, (mkB_len s).symm⟩, q g H _ (.refl g H) .int⟩
      · cases hz
    · split at hz
      · rename_i s hl
        cases hz
        have e := nx.str
        subst e
        exact ⟨_, s.length, rfl, ⟨by rw [mkS_len, ← line_eq]; exact hl, (mkS_len s).symm⟩, q g H _ (.refl g H) .int⟩
      · cases hz
    · cases hz
  · cases hz
theorem re_len {e : Expr} {p pos : Pos} {f : SE} (hg : Gl X "len") (hm : X.mg "len" = none) (h : RE X e f) (he : starEach [e] X.env = (false, eval e X.env) :: starEach [] X.env := by rfl) : RE X (.Call (.Name "len" p) [e] [] pos) (fnA lenS (consA f nilA)) :=
  re_callB call_len cl_len hg hm PySem.boot_len (ra_cons h ra_nil he) (by decide) (by decide) he
theorem cl_int : CallL X.K X.mg intS (fun xs H Q => (∃ i, xs = [.int i] ∧ Q (.int i) H) ∨ ∃ k, xs = [.bl k] ∧ Q (.int (if k then 1 else 0)) H) := fun g S H xs z vs Q r h hz q => by
  unfold intS at hz
  split at hz
  · cases hz
    obtain ⟨v, r', rfl, rv, rr⟩ := h.inv
    rw [rr.inv0]
    cases rv
    exact .inl ⟨_, rfl, q g H _ (.refl g H) .int⟩
  · cases hz
    obtain ⟨v, r', rfl, rv, rr⟩ := h.inv
    rw [rr.inv0]
    cases rv
    exact .inr ⟨_, rfl, q g H _ (.refl g H) .int⟩
  · cases hz
theorem re_toint {e : Expr} {p pos : Pos} {f : SE} (hg : Gl X "int") (hm : X.mg "int" = none) (h : RE X e f) (he : starEach [e] X.env = (false, eval e X.env) :: starEach [] X.env := by rfl) : RE X (.Call (.Name "int" p) [e] [] pos) (fnA intS (consA f nilA)) :=
  re_callTy call_int1 cl_int hg hm (by decide +kernel) (ra_cons h ra_nil he) (by decide) (by decide) he
theorem cl_min2 : CallL X.K X.mg min2S (fun xs H Q => ∃ i j, xs = [.int i, .int j] ∧ Q (.int (if j < i then j else i)) H) := fun g S H xs z vs Q r h hz q => by
  unfold min2S at hz
  split at hz
  · cases hz
    obtain ⟨v, r', rfl, rv, rr⟩ := h.inv
    obtain ⟨v', r'', rfl, rv', rr'⟩ := rr.inv
    rw [rr'.inv0]
    cases rv
    cases rv'
    exact ⟨_, _, rfl, q g H _ (.refl g H) .int⟩
  · cases hz
theorem cl_max2 : CallL X.K X.mg max2S (fun xs H Q => ∃ i j, xs = [.int i, .int j] ∧ Q (.int (if j > i then j else i)) H) := fun g S H xs z vs Q r h hz q => by
  unfold max2S at hz
  split at hz
  · cases hz
    obtain ⟨v, r', rfl, rv, rr⟩ := h.inv
    obtain ⟨v', r'', rfl, rv', rr'⟩ := rr.inv
    rw [rr'.inv0]
    cases rv
    cases rv'
    exact ⟨_, _, rfl, q g H _ (.refl g H) .int⟩
  · cases hz
theorem re_min2 {a b : Expr} {p pos : Pos} {fa fb : SE} (hg : Gl X "min") (hm : X.mg "min" = none) (ha : RE X a fa) (hb : RE X b fb) (hc : X.calm = true := by rfl) (he : starEach [a, b] X.env = (false, eval a X.env) :: starEach [b] X.env := by rfl) (he2 : starEach [b] X.env = (false, eval b X.env) :: starEach [] X.env := by rfl) (hpl : (backTo pos (starEach [b] X.env)).any (·.1) = false := by rfl) :
    RE X (.Call (.Name "min" p) [a, b] [] pos) (fnA min2S (consA fa (consA fb nilA))) := re_callB (call_min2 hc) cl_min2 hg hm (by decide +kernel) (ra_cons ha (ra_cons hb ra_nil he2) he) (by decide) (by decide) he hpl
theorem re_max2 {a b : Expr} {p pos : Pos} {fa fb : SE} (hg : Gl X "max") (hm : X.mg "max" = none) (ha : RE X a fa) (hb : RE X b fb) (hc : X.calm = true := by rfl) (he : starEach [a, b] X.env = (false, eval a X.env) :: starEach [b] X.env := by rfl) (he2 : starEach [b] X.env = (false, eval b X.env) :: starEach [] X.env := by rfl) (hpl : (backTo pos (starEach [b] X.env)).any (·.1) = false := by rfl) :
    RE X (.Call (.Name "max" p) [a, b] [] pos) (fnA max2S (consA fa (consA fb nilA))) := re_callB (call_max2 hc) cl_max2 hg hm (by decide +kernel) (ra_cons ha (ra_cons hb ra_nil he2) he) (by decide) (by decide) he hpl
/-- list(x) -/
theorem rl_list {e : Expr} {p pos : Pos} {f : SE} (hg : Gl X "list") (hm : X.mg "list" = none) (h : RE X e f) (he : starEach [e] X.env = (false, eval e X.env) :: starEach [] X.env := by rfl) : RL X (.Call (.Name "list" p) [e] [] pos) (listA f) := fun W ok =>
  pe_imp (pe_callTy call_list_of hg hm (by decide +kernel) (pa_cons (h W ok) pa_nil he) (by decide) (by decide) he rfl) fun σ H Q ⟨g, S0, en, S, rel, q⟩ =>
  ⟨g, S0, en, S, rel, q.bind.imp (fun _ t => t) fun g1 x e1 S1 σ1 H1 t1 l1 rel1 q1 v rv => by
    subst t1
    have nx := Now.of rel1.st rv
    revert q1 nx
    generalize deref S1 x = x'
    intro q1 nx
    cases x' with
    | lst xs =>
      obtain ⟨a, vs, rfl, h1, h2⟩ := nx.of_lst
      exact ⟨a, vs, rfl, .inl (SqL.of h1), fun p hp => q1 g1 _ H1 rfl (.refl g1) rel1 p vs hp h2⟩
    | frz xs =>
      obtain ⟨a, vs, rfl, h1, h2⟩ := nx.of_frz rel1.st
      exact ⟨a, vs, rfl, .inl h1, fun p hp => q1 g1 _ H1 rfl (.refl g1) rel1 p vs hp h2⟩
    | tup xs =>
      obtain ⟨a, vs, rfl, h1, h2⟩ := nx.of_tup rel1.st
      exact ⟨a, vs, rfl, .inr h1, fun p hp => q1 g1 _ H1 rfl (.refl g1) rel1 p vs hp h2⟩
    | _ => exact q1.elim⟩

/-! ### isinstance -/
/-- what an own class needs to be told by isinstance -/
structure IsC (X : Cx) (c : String) (C : Addr) : Prop where
  mgc : X.mg (nm c) = some (.ref C)
  cl : Cls X.K C
  ha : PySem.W.findIn X.K (.ref C) "__class__" = some (some (.builtin "object.__class__"))
  hn : PySem.W.specialIn X.K (.builtin "object.__class__") "__get__" = some (some (.builtin "getset_descriptor.__get__"))
  ht : PySem.W.takesIn X.K (.builtin "object.__class__") = some true
  hm : PySem.W.mroIn X.K C (.type "object") = some true
/-- a table's rows: a built-in type's answer, a class's -/
inductive ITbl (X : Cx) (A : Value → Bool → Prop) : List (String × Bool) → Prop
  | nil : ITbl X A []
  | ty {t : String} {b : Bool} {r : List (String × Bool)} : A (.type t) b → X.mg (nm t) = none → ITbl X A r → ITbl X A ((t, b) :: r)
  | cls {c : String} {C : Addr} {b : Bool} {r : List (String × Bool)} : IsC X c C → A (.ref C) b → ITbl X A r → ITbl X A ((c, b) :: r)
theorem ITbl.cls_ {A : Value → Bool → Prop} : ∀ {t : List (String × Bool)} {c : String} {C : Addr} {b : Bool}, ITbl X A t → X.mg (nm c) = some (.ref C) → t.lookup c = some b → IsC X c C ∧ A (.ref C) b
  | _, c, C, b, .nil, _, e => by simp at e
  | _, c, C, b, @ITbl.ty _ _ t b' r h1 h2 h3, hm, e => by
    by_cases hc : c = t
    · subst hc
      rw [h2] at hm; cases hm
    · rw [List.lookup_cons, beq_eq_false_iff_ne.mpr hc] at e
      exact h3.cls_ hm e
  | _, c, C, b, @ITbl.cls _ _ c' C' b' r h1 h2 h3, hm, e => by
    by_cases hc : c = c'
    · subst hc
      have := h1.mgc
      rw [hm] at this; cases this
      rw [List.lookup_cons_self] at e
      cases e
      exact ⟨h1, h2⟩
    · rw [List.lookup_cons, beq_eq_false_iff_ne.mpr hc] at e
      exact h3.cls_ hm e
theorem ITbl.ty_ {A : Value → Bool → Prop} : ∀ {tb : List (String × Bool)} {t : String} {b : Bool}, ITbl X A tb → (∀ C, X.mg (nm t) ≠ some (.ref C)) → tb.lookup t = some b → A (.type t) b
  | _, t, b, .nil, _, e => by simp at e
  | _, t, b, @ITbl.ty _ _ t' b' r h1 h2 h3, hn, e => by
    by_cases hc : t = t'
    · subst hc
      rw [List.lookup_cons_self] at e
      cases e; exact h1
    · rw [List.lookup_cons, beq_eq_false_iff_ne.mpr hc] at e
      exact h3.ty_ hn e
  | _, t, b, @ITbl.cls _ _ c' C' b' r h1 h2 h3, hn, e => by
    by_cases hc : t = c'
    · subst hc
      exact absurd h1.mgc (hn _)
    · rw [List.lookup_cons, beq_eq_false_iff_ne.mpr hc] at e
      exact h3.ty_ hn e
/-- no built-in type's name is a global of the module -/
def NoTy (X : Cx) : Prop := X.mg (nm "NoneType") = none ∧ X.mg (nm "bool") = none ∧ X.mg (nm "int") = none ∧ X.mg (nm "str") = none ∧ X.mg (nm "bytes") = none ∧ X.mg (nm "list") = none ∧ X.mg (nm "tuple") = none ∧ X.mg (nm "dict") = none
theorem tyX_frz {K : PySem.W.Frag} {H : Hp} {a : Addr} {vs : List V} (h : SqL K H a vs) : TyX K H (.ref a) (.type "list") := by
  rcases h with (h | ⟨o, h⟩) | ⟨o, its, n, h1, h2, _⟩
  · exact .base (.lst h)
  · exact .base (.frz h)
  · exact .kList h1 h2
theorem tyX_tup {K : PySem.W.Frag} {H : Hp} {a : Addr} {vs : List V} (h : SqT K H a vs) : TyX K H (.ref a) (.type "tuple") := by
  rcases h with (h | ⟨o, h⟩) | ⟨o, its, n, h1, h2, _⟩
  · exact .base (.tup h)
  · exact .fTuple h
  · exact .kTuple h1 h2
theorem tyX_of {S : Sto} {H : Hp} {g : Gh} (nt : NoTy X) (r : SRel X.K X.mg g S H) {x : D} {v : V} (h : Rep X.K X.mg g x v) {t : String} (e : tyD S x = some t) : TyX X.K H v (.type t) ∧ ∀ C, X.mg (nm t) ≠ some (.ref C) := by
  have n := Now.of r h
  obtain ⟨n1, n2, n3, n4, n5, n6, n7, n8⟩ := nt
  unfold tyD at e
  revert e n
  generalize deref S x = x'
  intro e n
  have no : ∀ {s : String}, X.mg (nm s) = none → ∀ C, X.mg (nm s) ≠ some (.ref C) := fun h C => by rw [h]; exact fun q => by cases q
  split at e <;> first | (cases e; done) | skip
  · cases e
    cases n with | rep _ h => cases h; exact ⟨.base .non, no n1⟩
  · cases e
    cases n with | rep _ h => cases h; exact ⟨.base (.bl _), no n2⟩
  · cases e
    cases n with | rep _ h => cases h; exact ⟨.base (.int _), no n3⟩
  · cases e
    cases n with | rep _ h => cases h; exact ⟨.base (.str _), no n4⟩
  · cases e
    cases n with | rep _ h => cases h; exact ⟨.byt _, no n5⟩
  · cases e
    obtain ⟨a, vs, rfl, h1, _⟩ := n.of_lst
    exact ⟨.base (.lst h1), no n6⟩
  · cases e
    obtain ⟨a, vs, rfl, h1, _⟩ := n.of_frz r
    exact ⟨tyX_frz h1, no n6⟩
  · cases e
    obtain ⟨a, vs, rfl, h1, _⟩ := n.of_tup r
    exact ⟨tyX_tup h1, no n7⟩
  · cases e
    cases n with | rep _ h2 => cases h2 with | edi h3 => exact ⟨.base (.dK (r.sub _ _ h3)), no n8⟩
theorem isi_go {W : WX} {A : Value → Bool → Prop} {tbl : List (String × Bool)} {f : SE} (T : ITbl X A tbl) (nt : NoTy X) {σ : L2.St} {H : Hp} {Q : Bool → Hp → Prop} (h : tTI X W (isiM tbl f) σ H Q) :
    tI X W f σ H fun x H1 => ∃ t b, A t b ∧ (TyX X.K H1 x t ∧ Q b H1) ∧ ∀ p o, H1 p = none → TyX X.K (upd H1 p o) x t ∧ Q b (upd H1 p o) := by
  obtain ⟨g, S0, en, S, rel, q⟩ := h
  refine ⟨g, S0, en, S, rel, q.bind.imp (fun _ t => t) fun g1 x e1 S1 σ1 H1 t1 l1 rel1 q1 v rv => ?_⟩
  cases hc : classOf S1 x with
  | none =>
    rw [hc] at q1
    obtain ⟨b, hb, q2⟩ := Post.opt q1
    rw [Option.bind_eq_some_iff] at hb
    obtain ⟨t, ht, hb⟩ := hb
    obtain ⟨h1, h2⟩ := tyX_of nt rel1.st rv ht
    refine ⟨_, b, T.ty_ h2 hb, ⟨h1, q2 g1 σ1 H1 t1 (.refl g1) rel1⟩, fun p o hp => ?_⟩
    have x := Ext.frz (o := o) rel1.st hp
    exact ⟨(tyX_of nt (x.rel _ rel1.st) (rv.mono x.le) ht).1, q2 _ σ1 _ t1 x.le (rel1.ext x)⟩
  | some p =>
    obtain ⟨c, fl⟩ := p
    rw [hc] at q1
    obtain ⟨b, hb, q2⟩ := Post.opt q1
    obtain ⟨a, C, dx, fv, rfl, h1, h2, _⟩ := classOf_ok rel1.st rv hc
    obtain ⟨k, k2⟩ := T.cls_ h1 hb
    refine ⟨_, b, k2, ⟨.base (.ins h2 k.cl k.ha k.hn k.ht k.hm), q2 g1 σ1 H1 t1 (.refl g1) rel1⟩, fun p o hp => ?_⟩
    have x := Ext.frz (o := o) rel1.st hp
    obtain ⟨a', C', dx', fv', e, h1', h2', _⟩ := classOf_ok (x.rel _ rel1.st) (rv.mono x.le) hc
    cases e
    rw [h1] at h1'; cases h1'
    exact ⟨.base (.ins h2' k.cl k.ha k.hn k.ht k.hm), q2 _ σ1 _ t1 x.le (rel1.ext x)⟩
/-- isinstance(e, c), one class -/
theorem re_isi {e c : Expr} {p pos : Pos} {f : SE} {cv : V} {u : Value} {tbl : List (String × Bool)} (hg : Gl X "isinstance") (hm : X.mg "isinstance" = none) (nt : NoTy X) (h : RE X e f) (hc : PE X c (tC cv)) (k : ClsV cv u) (T : ITbl X (fun t b => PySem.W.kitOne X.K t u = some b) tbl)
    (he : starEach [e, c] X.env = (false, eval e X.env) :: starEach [c] X.env := by rfl) (he2 : starEach [c] X.env = (false, eval c X.env) :: starEach [] X.env := by rfl) (hpl : (backTo pos (starEach [c] X.env)).any (·.1) = false := by rfl) :
    RE X (.Call (.Name "isinstance" p) [e, c] [] pos) (boolM (isiM tbl f)) := re_bool fun W ok => ⟨_, pe_callB call_isi hg hm (by decide +kernel) (pa_cons (h W ok) (pa_cons hc pa_nil he2) he) (by decide) (by decide) he hpl, fun σ H Q q => by
  obtain ⟨g, S0, en, S, rel, q⟩ := isi_go T nt q
  exact ⟨g, S0, en, S, rel, q.imp (fun _ t => t) fun g1 x e1 S1 σ1 H1 t1 l1 rel1 q1 v rv => by
    obtain ⟨t, b, h2, ⟨h1, h3⟩, _⟩ := q1 v rv
    exact ⟨v, cv, t, u, b, rfl, k, h1, h2, h3⟩⟩⟩
/-- isinstance(e, (c1, c2)), a tuple of classes -/
theorem re_isiT {e : Expr} {cs : List Expr} {p pos pos' : Pos} {k' : Nat} {f : SE} {cvs : List V} {us : List Value} {tbl : List (String × Bool)} (hg : Gl X "isinstance") (hm : X.mg "isinstance" = none) (nt : NoTy X) (h : RE X e f) (hc : PA X cs (fun _ H Q => Q cvs H)) (k : Paired ClsV cvs us) (hl : cvs.length ≤ sizeLine)
    (T : ITbl X (fun t b => PySem.W.kitAny X.K t us = some b) tbl)
    (he : starEach [e, .Tuple cs k' pos'] X.env = (false, eval e X.env) :: starEach [.Tuple cs k' pos'] X.env := by rfl) (he2 : starEach [.Tuple cs k' pos'] X.env = (false, eval (.Tuple cs k' pos') X.env) :: starEach [] X.env := by rfl) (hpl : (backTo pos (starEach [.Tuple cs k' pos'] X.env)).any (·.1) = false := by rfl) :
    RE X (.Call (.Name "isinstance" p) [e, .Tuple cs k' pos'] [] pos) (boolM (isiM tbl f)) := re_bool fun W ok => ⟨_, pe_callB call_isiT hg hm (by decide +kernel) (pa_cons (h W ok) (pa_cons (pe_tup hc) pa_nil he2) he) (by decide) (by decide) he hpl, fun σ H Q q => by
  obtain ⟨g, S0, en, S, rel, q⟩ := isi_go T nt q
  exact ⟨g, S0, en, S, rel, q.imp (fun _ t => t) fun g1 x e1 S1 σ1 H1 t1 l1 rel1 q1 v rv => by
    obtain ⟨t, b, h2, _, h3⟩ := q1 v rv
    exact ⟨hl, fun p hp => ⟨v, p, cvs, t, us, b, rfl, upd_same, k, (h3 p _ hp).1, h2, (h3 p _ hp).2⟩⟩⟩⟩
end
end Mir
end

/-! MirLst -/
section
set_option Elab.async false
set_option linter.all false
set_option maxRecDepth 100000
/-! MirLst: lists of the store turned; slices. -/
namespace Mir
open PySem L2

section
variable {X : Cx}
/-- a list's method that turns it, by values -/
structure LmL (K : PySem.W.Frag) (mg : Str → Option Value) (f : Sto → List D → List D → Option (List D × List D)) (r : V → List V → Hp → VK → Prop) : Prop where
  go : ∀ (g : Gh) (S : Sto) (H : Hp) (xs ys zs ws : List D) (a : Addr) (vs us : List V) (Q : VK), SRel K mg g S H → H a = some (.lst vs) → Reps K mg g xs vs → Reps K mg g ys us → f S xs ys = some (zs, ws) → (∀ vs', Reps K mg g zs vs' → Q .non (upd H a (.lst vs'))) → r (.ref a) us H Q
  lim : ∀ (S : Sto) (xs ys zs ws : List D) (n : Nat), f S xs ys = some (zs, ws) → limL n xs = true → limL n ws = true → limL n zs = true
theorem lm_app {K : PySem.W.Frag} {mg : Str → Option Value} : LmL K mg appL rAppend := by
  refine ⟨fun g S H xs ys zs ws a vs us Q r ha hx hy hf q => ?_, fun S xs ys zs ws n hf h1 h2 => ?_⟩
  · unfold appL at hf
    split at hf
    · split at hf
      · rename_i hl
        cases hf
        obtain ⟨v, r', rfl, rv, rr⟩ := hy.inv
        rw [rr.inv0]
        exact ⟨a, vs, v, rfl, rfl, ha, by rw [hx.len, ← line_eq]; exact hl, q _ (hx.append (.cons rv .nil))⟩
      · cases hf
    · cases hf
  · unfold appL at hf
    split at hf
    · split at hf
      · cases hf
        exact limL_app h1 h2
      · cases hf
    · cases hf
theorem lm_ext {K : PySem.W.Frag} {mg : Str → Option Value} : LmL K mg extL rExtend := by
  refine ⟨fun g S H xs ys zs ws a vs us Q r ha hx hy hf q => ?_, fun S xs ys zs ws n hf h1 h2 => ?_⟩
  · unfold extL at hf
    split at hf
    · rename_i y
      obtain ⟨v, r', rfl, rv, rr⟩ := hy.inv
      rw [rr.inv0]
      have n := Now.of r rv
      revert hf n
      generalize deref S y = y'
      intro hf n
      split at hf
      · split at hf
        · rename_i hl
          cases hf
          obtain ⟨b, ws', rfl, h1, h2⟩ := n.of_lst
          exact ⟨a, b, vs, ws', rfl, rfl, ha, h1, by rw [hx.len, h2.len, ← line_eq]; exact hl, q _ (hx.append h2)⟩
        · cases hf
      · cases hf
    · cases hf
  · unfold extL at hf
    split at hf
    · split at hf
      · split at hf
        · cases hf
          exact limL_app h1 h2
        · cases hf
      · cases hf
    · cases hf
theorem Reps.rev {K : PySem.W.Frag} {mg : Str → Option Value} {g : Gh} {xs : List D} {vs : List V} (h : Reps K mg g xs vs) : Reps K mg g xs.reverse vs.reverse := by
  refine ⟨by simp [h.len], fun i d v e1 e2 => ?_⟩
  have hi : i < xs.length := by simpa using (List.getElem?_eq_some_iff.mp e1).1
  rw [List.getElem?_reverse hi] at e1
  rw [List.getElem?_reverse (by rw [h.len]; exact hi), h.len] at e2
  exact h.at_ _ d v e1 e2
theorem limL_mem {n : Nat} : ∀ {xs : List D}, limL n xs = true ↔ ∀ d ∈ xs, d.lim n = true
  | [] => by simp [limL]
  | x :: xs => by
    rw [limL, Bool.and_eq_true_iff, limL_mem]
    simp
theorem lm_clr {K : PySem.W.Frag} {mg : Str → Option Value} : LmL K mg clrL rClear := by
  refine ⟨fun g S H xs ys zs ws a vs us Q r ha hx hy hf q => ?_, fun S xs ys zs ws n hf h1 h2 => ?_⟩
  · unfold clrL at hf
    split at hf
    · cases hf
      rw [hy.inv0]
      exact ⟨a, vs, rfl, rfl, ha, q _ .nil⟩
    · cases hf
  · unfold clrL at hf
    split at hf
    · cases hf; rfl
    · cases hf
theorem lm_rev {K : PySem.W.Frag} {mg : Str → Option Value} : LmL K mg revL rReverse := by
  refine ⟨fun g S H xs ys zs ws a vs us Q r ha hx hy hf q => ?_, fun S xs ys zs ws n hf h1 h2 => ?_⟩
  · unfold revL at hf
    split at hf
    · cases hf
      rw [hy.inv0]
      exact ⟨a, vs, rfl, rfl, ha, q _ hx.rev⟩
    · cases hf
  · unfold revL at hf
    split at hf
    · cases hf
      rw [limL_mem] at h1 ⊢
      exact fun d hd => h1 d (List.mem_reverse.mp hd)
    · cases hf
/-- the same reading, whatever the number of arguments -/
theorem lmet_go {W : WX} {f : Sto → List D → List D → Option (List D × List D)} {r : V → List V → Hp → VK → Prop} {fo : SE} {fs : SA} (L : LmL X.K X.mg f r) {σ : L2.St} {H : Hp} {Q : VK} (h : tI X W (lmetM f fo fs) σ H Q) :
    tI X W fo σ H fun x H1 => tyV X.K "list" x H1 ∧ tAI X W fs σ H1 fun us H2 => r x us H2 Q := by
  obtain ⟨g, S0, e, S, rel, q⟩ := h
  refine ⟨g, S0, e, S, rel, q.bind.imp (fun _ t => t) fun g1 x e1 S1 σ1 H1 t1 l1 rel1 q1 v rv => ?_⟩
  subst t1
  cases x with
  | ref i =>
    cases rv with
    | @ref _ a hm =>
      dsimp only at q1
      cases hS : S1[i]? with
      | none => rw [hS] at q1; exact q1.elim
      | some ob =>
        rw [hS] at q1
        cases ob with
        | lst w xs0 =>
          dsimp only at q1
          obtain ⟨hF, vs, h1, h2⟩ := rel1.st.ob _ _ _ hS hm
          refine ⟨.inl ⟨rfl, vs, SqL.of h1⟩, g1, S0, e1, S1, rel1, q1.bind.imp (fun _ t => t) fun g2 ys e2 S2 σ2 H2 t2 l2 rel2 q2 us rus => ?_⟩
          subst t2
          cases hS2 : S2[i]? with
          | none => rw [hS2] at q2; exact q2.elim
          | some ob2 =>
            rw [hS2] at q2
            cases ob2 with
            | lst w2 xs =>
              dsimp only at q2
              have hm2 := l2.m _ _ hm
              obtain ⟨hF2, vs2, k1, k2⟩ := rel2.st.ob _ _ _ hS2 hm2
              cases hz : f S2 xs ys with
              | none => rw [hz] at q2; exact q2.elim
              | some p =>
                obtain ⟨zs, ws⟩ := p
                rw [hz] at q2
                dsimp only at q2
                split at q2
                · rename_i hp
                  refine L.go g2 S2 H2 xs ys zs ws a vs2 us Q rel2.st k1 k2 rus hz fun vs' rv' => ?_
                  refine q2 g2 σ2 _ rfl (.refl g2) (rel2.write hS2 rfl hm2 ⟨hF2, vs', upd_same, rv'⟩ ?_) _ .non
                  rcases Bool.or_eq_true_iff.mp hp with hp | hp
                  · exact .inl (of_decide_eq_true hp)
                  · exact .inr fun n hn => L.lim S2 xs ys zs ws n hz hn (limL_mono' (Nat.zero_le n) _ hp)
                · exact q2.elim
            | dead => exact q2.elim
            | ins c fs => exact q2.elim
        | dead => exact q1.elim
        | ins c fs => exact q1.elim
  | _ => exact q1.elim
theorem re_lmet {name : Str} {id : String} {o e : Expr} {es : List Expr} {apos cpos : Pos} {f : Sto → List D → List D → Option (List D × List D)} {r : V → List V → Hp → VK → Prop} {fo : SE} {fs : SA} (slot : Slot "list" name id) (hty : typeOf (.builtin id) = pure (.type "method_descriptor")) (hm : MtR X id r) (L : LmL X.K X.mg f r)
    (ho : RE X o fo) (ha : RA X (e :: es) fs) (hbase : attributeBase o name X.env (eval o X.env) = eval o X.env := by rfl)
    (hfew : ((backTo cpos (starEach (e :: es) X.env)).all (fun x => !x.1) && (backToKw cpos (keywordEach [] X.env)).all (fun x => x.1.isSome)
      && decide ((e :: es).length + ([] : List Keyword).length + (if ([] : List Keyword).isEmpty then 0 else 1) < 30)) = true := by rfl)
    (hline : (apos.endLine == cpos.line) = true := by rfl) (hs : starEach (e :: es) X.env = (false, eval e X.env) :: starEach es X.env := by rfl) (hplain : (backTo cpos (starEach es X.env)).any (·.1) = false := by rfl) :
    RE X (.Call (.Attribute o name apos) (e :: es) [] cpos) (lmetM f fo fs) := fun W ok => pe_imp (pe_bm PySem.F.plainAttrs_list slot hty hm (ho W ok) (ha W ok) hbase hfew hline hs hplain) fun σ H Q q => lmet_go L q
theorem re_lmet0 {name : Str} {id : String} {o : Expr} {apos cpos : Pos} {f : Sto → List D → List D → Option (List D × List D)} {r : V → List V → Hp → VK → Prop} {fo : SE} (slot : Slot "list" name id) (hty : typeOf (.builtin id) = pure (.type "method_descriptor")) (hm : MtR X id r) (L : LmL X.K X.mg f r)
    (ho : RE X o fo) (hbase : attributeBase o name X.env (eval o X.env) = eval o X.env := by rfl) (hline : (apos.endLine == cpos.line) = true := by rfl) :
    RE X (.Call (.Attribute o name apos) [] [] cpos) (lmetM f fo nilA) := fun W ok => pe_imp (pe_bm0 PySem.F.plainAttrs_list slot hty hm (ho W ok) hbase hline) fun σ H Q q => by
  obtain ⟨g, S0, e, S, rel, q⟩ := lmet_go L q
  exact ⟨g, S0, e, S, rel, q.imp (fun _ t => t) fun g1 x e1 S1 σ1 H1 t1 l1 rel1 q1 v rv => by
    obtain ⟨ty, g2, S0', e2, S2, rel2, q2⟩ := q1 v rv
    exact ⟨ty, q2 g2 σ H1 rfl (.refl g2) rel2 [] .nil⟩⟩
/-! ### stores to items -/
theorem rg_sub {o i : Expr} {pos : Pos} {fo fi : SE} (ho : RE X o fo) (hi : RE X i fi) (ha : ∀ v, assign (.Subscript o i pos) X.env v = (do
      let ov ← holding [v] (eval o X.env)
      let iv ← holding [v, ov] (eval i X.env)
      standAt pos
      holding [v, ov, iv] (setItem ov iv v)
      release [v, ov, iv] []) := by intro _; rfl) : RG X (.Subscript o i pos) (gsM fo fi) := fun W ok => pg_imp (pg_sub (ho W ok) (hi W ok) set_list ha) fun v σ H Q ⟨g, S0, e, S, d, rel, rv, q⟩ =>
  ⟨g, S0, e, S, rel, q.bind.imp (fun _ t => trivial) fun g1 x e1 S1 σ1 H1 t1 l1 rel1 q1 u ru => by
    subst t1
    exact ⟨g1, S0, e1, S1, rel1, q1.bind.imp (fun _ t => trivial) fun g2 y e2 S2 σ2 H2 t2 l2 rel2 q2 w rw' => by
      subst t2
      cases x with
      | ref k =>
        cases y with
        | int j =>
          cases rw'
          cases ru with
          | @ref _ a hm =>
            dsimp only at q2
            cases hS : S2[k]? with
            | none => rw [hS] at q2; exact q2.elim
            | some ob =>
              rw [hS] at q2
              cases ob with
              | lst w xs =>
                dsimp only at q2
                have hm2 := l2.m _ _ hm
                obtain ⟨hF, vs, h1, h2⟩ := rel2.st.ob _ _ _ hS hm2
                cases hp : ixD xs.length j with
                | none => rw [hp] at q2; exact q2.elim
                | some p =>
                  rw [hp] at q2
                  dsimp only at q2
                  split at q2
                  · rename_i hk
                    have rd := (rv.mono l1).mono l2
                    refine ⟨a, vs, j, p, rfl, rfl, h1, by rw [h2.len, ← ixD_eq]; exact hp, ?_⟩
                    refine q2 g2 σ2 _ trivial (.refl g2) (rel2.write hS rfl hm2 ⟨hF, _, upd_same, h2.set rd p⟩ ?_)
                    rcases mayPut_ok hk with hk | hk
                    · exact .inl hk
                    · exact .inr fun n hn => limL_set (hk n) hn
                  · exact q2.elim
              | dead => exact q2.elim
              | ins c fs => exact q2.elim
        | _ => exact q2.elim
      | _ => exact q2.elim⟩⟩

/-! ### slices -/
def RO (X : Cx) (e : Option Expr) (f : Option SE) : Prop := match e, f with
  | none, none => True
  | some e, some f => RE X e f
  | _, _ => False
theorem cutI_eq (n d : Nat) (o : Option Int) : cutI n d o = HT.sIx n d o := by
  cases o <;> rfl
def tPI (X : Cx) (W : WX) (f : Option SE) : TO := fun σ H Q => ∃ g S0 e S, Rel X.K X.mg g S0 e S σ H ∧ Post X.K X.mg W S0 (· = σ) g (partM f S0.length e S) (fun _ o _ _ _ H' => Q o H')
theorem po_of {W : WX} {e : Option Expr} {f : Option SE} (ok : Ok X W) (h : RO X e f) : PO X e (tPI X W f) := by
  cases e with
  | none =>
    cases f with
    | none => exact ⟨fun pins s σ H Q I ⟨g, S0, en, S, rel, q⟩ => po_none.run pins s σ H Q I (q g σ H rfl (.refl g) rel)⟩
    | some f => exact h.elim
  | some e =>
    cases f with
    | none => exact h.elim
    | some f => exact ⟨fun pins s σ H Q I ⟨g, S0, en, S, rel, q⟩ => (po_some (h W ok)).run pins s σ H Q I ⟨g, S0, en, S, rel, (show Post X.K X.mg W S0 (· = σ) g ((f S0.length en S).bind _) _ from q).bind.imp (fun _ t => t) fun g1 x e1 S1 σ1 H1 t1 l1 rel1 q1 v rv => by
        cases x with
        | int i =>
          cases rv
          exact ⟨i, rfl, q1 g1 σ1 H1 t1 (.refl g1) rel1⟩
        | _ => exact q1.elim⟩⟩
theorem cutV_eq {K : PySem.W.Frag} {mg : Str → Option Value} {g : Gh} {xs : List D} {vs : List V} (h : Reps K mg g xs vs) (l u : Option Int) : Reps K mg g (cutL xs l u) (cutV vs l u) := by
  unfold cutL cutV
  rw [h.len, cutI_eq, cutI_eq]
  exact (h.drop _).take _
theorem cutS_eq (s : List Nat) (l u : Option Int) : cutS (mkS s) l u = mkS (cutL s l u) := by
  unfold cutS cutL
  rw [mkS_len, cutI_eq, cutI_eq]
  show Str.mk ((s.toArray.toList.drop _).take _).toArray = Str.mk _
  rw [List.toList_toArray]
theorem clip_eq (n : Nat) (i : Int) : clipAt n i = cutI n 0 (some i) := by
  unfold clipAt
  show _ = if i < 0 then (i + n).toNat else min i.toNat n
  split <;> omega
theorem cutB_eq (s : List Nat) (l u : Option Int) : PySem.W.KBy.picked (mkB s) l u = mkB (cutL s l u) := by
  have e0 : ∀ o : Option Int, o.elim 0 (clipAt (mkB s).size) = cutI s.length 0 o := fun o => by
    rw [mkB_len]
    cases o with
    | none => rfl
    | some i => exact clip_eq _ _
  have e1 : ∀ o : Option Int, o.elim (mkB s).size (clipAt (mkB s).size) = cutI s.length s.length o := fun o => by
    rw [mkB_len]
    cases o with
    | none => rfl
    | some i => exact clip_eq _ _
  rw [PySem.W.KBc.picked_eq, e0, e1]
  unfold mkB cutL
  rw [List.toList_toArray, ← List.map_drop, ← List.map_take]
def rSlV (K : PySem.W.Frag) : V → Option Int → Option Int → Hp → VK → Prop := fun x lo hi H Q => rSlL K x lo hi H Q ∨ (rSlS x lo hi H Q ∨ rSlB x lo hi H Q)
theorem sl_val : SlR X (rSlV X.K) := sl_list.or (sl_str.or sl_byt)
theorem sl_ok {g : Gh} {S : Sto} {H : Hp} {x z : D} {v : V} {l u : Option Int} {Q : VK} (r : SRel X.K X.mg g S H) (hx : Rep X.K X.mg g x v) (hz : slcS S x l u = some z) (q : ∀ g' H' w, Ext X.K X.mg g H g' H' → Rep X.K X.mg g' z w → Q w H') : rSlV X.K v l u H Q := by
  have nx := Now.of r hx
  unfold slcS at hz
  revert hz nx
  generalize deref S x = x'
  intro hz nx
  split at hz
  · cases hz
    obtain ⟨a, vs, rfl, h1, h2⟩ := nx.of_lst
    exact .inl ⟨a, vs, rfl, SqL.of h1, fun p hp => newLst r (cutV_eq h2 l u) q hp⟩
  · cases hz
    obtain ⟨a, vs, rfl, h1, h2⟩ := nx.of_frz r
    exact .inl ⟨a, vs, rfl, h1, fun p hp => newLst r (cutV_eq h2 l u) q hp⟩
  · split at hz
    · rename_i s hl
      cases hz
      have e := nx.str
      subst e
      exact .inr (.inl ⟨mkS s, rfl, by rw [mkS_len, ← line_eq]; exact hl, by rw [cutS_eq]; exact q g H _ (.refl g H) .str⟩)
    · cases hz
  · split at hz
    · rename_i s hl
      cases hz
      obtain ⟨e, hb⟩ := nx.byt
      subst e
      refine .inr (.inr ⟨mkB s, rfl, by rw [mkB_len]; exact hl, ?_⟩)
      rw [cutB_eq]
      exact q g H _ (.refl g H) (.byt fun x hx => hb x (List.mem_of_mem_drop (List.mem_of_mem_take hx)))
    · cases hz
  · cases hz
theorem re_slice {e : Expr} {lo hi : Option Expr} {p2 pos : Pos} {f : SE} {fl fu : Option SE} (h : RE X e f) (hl : RO X lo fl) (hu : RO X hi fu) : RE X (.Subscript e (.Slice lo hi none p2) pos) (slcM f fl fu) := fun W ok =>
  pe_imp (pe_slice sl_val (h W ok) (po_of ok hl) (po_of ok hu)) fun σ H Q ⟨g, S0, en, S, rel, q⟩ => ⟨g, S0, en, S, rel, q.bind.imp (fun _ t => t) fun g1 x e1 S1 σ1 H1 t1 l1 rel1 q1 v rv => by
    subst t1
    exact ⟨g1, S0, e1, S1, rel1, q1.bind.imp (fun _ t => t) fun g2 o e2 S2 σ2 H2 t2 l2 rel2 q2 => by
      subst t2
      exact ⟨g2, S0, e2, S2, rel2, q2.bind.imp (fun _ t => t) fun g3 o' e3 S3 σ3 H3 t3 l3 rel3 q3 => by
        subst t3
        obtain ⟨z, hz, q4⟩ := q3.opt
        exact sl_ok rel3.st ((rv.mono l2).mono l3) hz fun g4 H4 w x4 rw4 => q4 g4 _ H4 rfl x4.le (rel3.ext x4) w rw4⟩⟩⟩
end
end Mir
end

/-! MirComp -/
section
set_option Elab.async false
set_option linter.all false
set_option maxRecDepth 100000
/-! MirComp: list comprehensions. -/
namespace Mir
open PySem L2

def W0 : WX := fun _ _ _ _ => False
section
variable {X : Cx}
theorem ok_blk {W : WX} (ok : Ok X W) (s : Shared) (H : Hp) (scope : Scope) (cenv : PySem.Env) (fp : List Addr) : Ok (X.blk s H scope cenv fp) W0 := ⟨takes0, PassesOwn.never, ok.hu⟩
/-- the target of a comprehension: names alone -/
def RC (X : Cx) (tg : Expr) (vs : List Nat) (f : CT) (gT : TG) : Prop := PG X tg gT ∧ ∀ (g : Gh) (S0 : Sto) (e : Env) (S : Sto) (σ : L2.St) (H : Hp) (d : D) (v : V) (e' : Env) (Q : L2.St → Hp → Prop), Rel X.K X.mg g S0 e S σ H → Rep X.K X.mg g d v → f d e = some e' →
  (∀ σ2, Rel X.K X.mg g S0 e' S σ2 H → (∀ i, i ∉ vs → σ2[i]? = σ[i]?) → σ2.length = σ.length → Q σ2 H) → gT v σ H Q
def RCs (X : Cx) (ts : List Expr) (vs : List Nat) (f : List D → Env → Option Env) (gT : TGs) : Prop := PGs X ts gT ∧ ∀ (g : Gh) (S0 : Sto) (e : Env) (S : Sto) (σ : L2.St) (H : Hp) (ds : List D) (us : List V) (e' : Env) (Q : L2.St → Hp → Prop), Rel X.K X.mg g S0 e S σ H → Reps X.K X.mg g ds us → f ds e = some e' →
  (∀ σ2, Rel X.K X.mg g S0 e' S σ2 H → (∀ i, i ∉ vs → σ2[i]? = σ[i]?) → σ2.length = σ.length → Q σ2 H) → gT us σ H Q
theorem rc_name {i : Nat} {x : Str} {pos : Pos} {vs : List Nat} (hN : X.N.Nodup) (hv : i ∈ vs) (hi : X.N[i]? = some x := by rfl) (hx : Loc X.env.scope x := by first | exact Or.inl rfl | exact Or.inr rfl) (hf : X.fn x = true ∨ X.env.scope.names.lookup x = some .local := by first | exact .inl rfl | exact .inr rfl | assumption) : RC X (.Name x pos) vs (ctN i) (gName i) := by
  refine ⟨pg_name hN hi hx hf, fun g S0 e S σ H d v e' Q rel rv he q => ?_⟩
  unfold ctN at he
  split at he
  · rename_i hl
    cases he
    exact q _ (rel.slot hl rv) (fun j hj => List.getElem?_set_ne (fun h => hj (by rw [← h]; exact hv))) (by simp)
  · cases he
theorem rcs_nil {vs : List Nat} : RCs X [] vs ctsNil gNil := by
  refine ⟨pgs_nil, fun g S0 e S σ H ds us e' Q rel rv he q => ?_⟩
  unfold ctsNil at he
  cases ds with
  | nil => cases he; exact ⟨rv.inv0, q σ rel (fun _ _ => rfl) rfl⟩
  | cons d ds => cases he
theorem rcs_cons {t : Expr} {ts : List Expr} {vs : List Nat} {f : CT} {fs : List D → Env → Option Env} {gT : TG} {gTs : TGs} (h : RC X t vs f gT) (hr : RCs X ts vs fs gTs) (hs : (assignEach (t :: ts) X.env).map (·.2) = assign t X.env :: (assignEach ts X.env).map (·.2) := by rfl) : RCs X (t :: ts) vs (ctsCons f fs) (gCons gT gTs) := by
  refine ⟨pgs_cons h.1 hr.1 hs, fun g S0 e S σ H ds us e' Q rel rv he q => ?_⟩
  unfold ctsCons at he
  cases ds with
  | nil => cases he
  | cons d ds =>
    obtain ⟨v, r', rfl, r1, r2⟩ := rv.inv
    dsimp only at he
    rw [Option.bind_eq_some_iff] at he
    obtain ⟨e1, h1, h2⟩ := he
    exact ⟨v, r', rfl, h.2 g S0 e S σ H d v e1 _ rel r1 h1 fun σ2 rel2 k2 l2 => hr.2 g S0 e1 S σ2 H ds r' e' Q rel2 r2 h2 fun σ3 rel3 k3 l3 => q σ3 rel3 (fun i hi => (k3 i hi).trans (k2 i hi)) (l3.trans l2)⟩
theorem rc_tup {es : List Expr} {k n : Nat} {pos : Pos} {vs : List Nat} {fs : List D → Env → Option Env} {gTs : TGs} (h : RCs X es vs fs gTs) (hc : X.calm = true := by rfl) (hn : (assignEach es X.env).length = n := by rfl) (hst : (assignEach es X.env).findIdx? (·.1) = none := by rfl) : RC X (.Tuple es k pos) vs (ctT n fs) (gTup X.K n gTs) := by
  refine ⟨pg_tup hc h.1 hn hst, fun g S0 e S σ H d v e' Q rel rv he q => ?_⟩
  unfold ctT at he
  cases d with
  | tup xs =>
    obtain ⟨a, us, rfl, h1, h2⟩ := Reps.of_tup rv
    dsimp only at he
    split at he
    · rename_i hl
      exact ⟨a, us, rfl, sub_SqT rel.st h1, h2.len.trans hl, h.2 g S0 e S σ H xs us e' Q rel h2 he q⟩
    · cases he
  | _ => cases he
/-- a clause's tests -/
def RTs (X : Cx) (ifs : List Expr) (f : ST) : Prop := ∀ W, Ok X W → PTs X ifs (tTI X W f)
theorem rts_nil : RTs X [] yesT := fun W ok => ⟨fun pins s σ H Q I ⟨g, S0, e, S, rel, q⟩ => pts_nil.run pins s σ H Q I (q g σ H rfl (.refl g) rel)⟩
theorem rts_one {c : Expr} {t : ST} (h : RT X c t) : RTs X [c] t := fun W ok => pts_one (h W ok)

theorem wipeE_len (e : Env) : ∀ vs : List Nat, (wipeE e vs).length = e.length
  | [] => rfl
  | v :: vs => by unfold wipeE; rw [List.length_set, wipeE_len e vs]
theorem wipeE_some {e : Env} {i : Nat} {d : D} : ∀ {vs : List Nat}, (wipeE e vs)[i]? = some (some d) → e[i]? = some (some d) ∧ i ∉ vs
  | [], h => ⟨h, by simp⟩
  | v :: vs, h => by
    unfold wipeE at h
    by_cases hi : v = i
    · subst hi
      by_cases hv : v < (wipeE e vs).length
      · rw [List.getElem?_set_self hv] at h; cases h
      · rw [List.getElem?_eq_none (by simpa using hv)] at h; cases h
    · rw [List.getElem?_set_ne hi] at h
      obtain ⟨h1, h2⟩ := wipeE_some h
      exact ⟨h1, by simp only [List.mem_cons, not_or]; exact ⟨fun q => hi q.symm, h2⟩⟩
theorem Rel.wipe {K : PySem.W.Frag} {mg : Str → Option Value} {g : Gh} {S0 : Sto} {e : Env} {S : Sto} {σ : L2.St} {H : Hp} (r : Rel K mg g S0 e S σ H) (vs : List Nat) : Rel K mg g S0 (wipeE e vs) S (L2.wipe σ vs) H := by
  refine ⟨r.st, r.le0, r.frm, by rw [wipeE_len, wipe_length]; exact r.el, fun i d h => ?_⟩
  obtain ⟨h1, h2⟩ := wipeE_some h
  obtain ⟨v, hv, rv⟩ := r.sl i d h1
  exact ⟨v, by rw [wipe_out h2]; exact hv, rv⟩
theorem wipe_same {σ σ2 : L2.St} {vs : List Nat} (k : ∀ i, i ∉ vs → σ2[i]? = (L2.wipe σ vs)[i]?) (l : σ2.length = (L2.wipe σ vs).length) : L2.wipe σ2 vs = L2.wipe σ vs := by
  have inn : ∀ (τ : L2.St) (ws : List Nat) (i : Nat), i ∈ ws → i < τ.length → (L2.wipe τ ws)[i]? = some none := by
    intro τ ws
    induction ws with
    | nil => intro i h; simp at h
    | cons w ws ih =>
      intro i hi hlt
      unfold L2.wipe
      by_cases e : w = i
      · subst e
        rw [List.getElem?_set_self (by rw [wipe_length]; exact hlt)]
      · rw [List.getElem?_set_ne e]
        rcases List.mem_cons.mp hi with h | h
        · exact absurd h.symm e
        · exact ih i h hlt
  refine List.ext_getElem? fun i => ?_
  rw [wipe_length] at l
  by_cases hi : i ∈ vs
  · by_cases hlt : i < σ.length
    · rw [inn _ _ _ hi hlt, inn _ _ _ hi (by rw [l]; exact hlt)]
    · rw [List.getElem?_eq_none (by rw [wipe_length, l]; omega), List.getElem?_eq_none (by rw [wipe_length]; omega)]
  · rw [wipe_out hi, k i hi]
theorem restE_len (e0 e : Env) : ∀ vs : List Nat, (restE vs e0 e).length = e.length
  | [] => rfl
  | v :: vs => by unfold restE; rw [List.length_set, restE_len e0 e vs]
theorem restE_some {e0 e : Env} {i : Nat} {d : D} : ∀ {vs : List Nat}, (restE vs e0 e)[i]? = some (some d) → (i ∈ vs ∧ e0[i]? = some (some d)) ∨ (i ∉ vs ∧ e[i]? = some (some d))
  | [], h => .inr ⟨by simp, h⟩
  | v :: vs, h => by
    unfold restE at h
    by_cases hi : v = i
    · subst hi
      by_cases hv : v < (restE vs e0 e).length
      · rw [List.getElem?_set_self hv] at h
        refine .inl ⟨List.mem_cons_self, ?_⟩
        cases q : e0[v]? with
        | none => rw [q] at h; simp at h
        | some o => rw [q] at h; simpa using h
      · rw [List.getElem?_eq_none (by simpa using hv)] at h; cases h
    · rw [List.getElem?_set_ne hi] at h
      rcases restE_some h with ⟨h1, h2⟩ | ⟨h1, h2⟩
      · exact .inl ⟨List.mem_cons_of_mem _ h1, h2⟩
      · exact .inr ⟨by simp only [List.mem_cons, not_or]; exact ⟨fun q => hi q.symm, h1⟩, h2⟩
def tCR (X : Cx) (W : WX) (f : Nat → Env → Sto → R Nat) : TE := fun σ H Q => ∃ g S0 e S, Rel X.K X.mg g S0 e S σ H ∧ Post X.K X.mg W S0 (· = σ) g (f S0.length e S) (fun g' id _ _ _ H' => ∀ a, g'.m[id]? = some a → Q (.ref a) H')
theorem lc_read {W : WX} {w : Bool} {fi : SA} {vs : List Nat} {fg : CT} {gT : TG} {ft : ST} {fx : SE}
    (hg : ∀ (g : Gh) (S0 : Sto) (e : Env) (S : Sto) (σ : L2.St) (H : Hp) (d : D) (v : V) (e' : Env) (Q : L2.St → Hp → Prop), Rel X.K X.mg g S0 e S σ H → Rep X.K X.mg g d v → fg d e = some e' →
      (∀ σ2, Rel X.K X.mg g S0 e' S σ2 H → (∀ i, i ∉ vs → σ2[i]? = σ[i]?) → σ2.length = σ.length → Q σ2 H) → gT v σ H Q) {σ : L2.St} {H : Hp} {Q : VK} (h : tCR X W (compR w fi vs fg ft fx) σ H Q) : tLc (tII X W fi) gT (tTI X W0 ft) (tI X W0 fx) vs σ H Q := by
  obtain ⟨g, S0, e, S, rel, q⟩ := h
  refine ⟨g, S0, e, S, rel, q.bind.imp (fun _ t => t) fun g1 xs e1 S1 σ1 H1 t1 l1 rel1 q1 J wk a ha => ?_⟩
  subst t1
  -- the loop's end, told
  have fin : ∃ e2 S2, compL S1.length vs fg ft fx S0.length xs (wipeE e1 vs) (S1 ++ [.lst w []]) = .ok () e2 S2 ∧ Post X.K X.mg W S0 (· = σ1) g1 (.ok S1.length (restE vs e1 e2) S2) (fun g' id _ _ _ H' => ∀ a, g'.m[id]? = some a → Q (.ref a) H') := by
    revert q1
    cases compL S1.length vs fg ft fx S0.length xs (wipeE e1 vs) (S1 ++ [.lst w []]) with
    | ok u e2 S2 => exact fun q1 => ⟨e2, S2, rfl, q1⟩
    | exc c fs e2 S2 => exact fun q1 => q1.elim
    | stuck => exact fun q1 => q1.elim
  obtain ⟨e2, S2, hloop, q2⟩ := fin
  -- the new list
  have hm : (g1.new a).m[S1.length]? = some a := by
    show (g1.m ++ [a])[S1.length]? = some a
    rw [← rel1.st.len, List.getElem?_append_right (Nat.le_refl _)]
    simp
  have st' := rel1.st.new (o := .lst []) (ob := .lst w []) ha rfl ⟨rel1.st.fresh ha, [], upd_same, .nil⟩
  have relN := (rel1.move Gh.le_new st' ((KFr.refl S1).push _)).wipe vs
  refine ⟨fun i m H => m = xs.length - i ∧ i ≤ xs.length ∧ ∃ g e S, (g1.new a).le g ∧ Rel X.K X.mg g S0 e S (L2.wipe σ1 vs) H ∧ compL S1.length vs fg ft fx S0.length (xs.drop i) e S = .ok () e2 S2,
    ⟨xs.length, by simp, Nat.zero_le _, g1.new a, wipeE e1 vs, _, .refl _, relN, hloop⟩, ?_⟩
  rintro i m H ⟨rfl, hi, g3, e3, S3, l3, rel3, c3⟩
  have hid := l3.m _ _ hm
  by_cases hlt : i < xs.length
  · have hd : xs.drop i = xs[i] :: xs.drop (i + 1) := List.drop_eq_getElem_cons hlt
    have hx : xs[i]? = some xs[i] := List.getElem?_eq_getElem hlt
    have lw := Gh.le_new.trans l3
    rw [hd] at c3
    refine .inr ⟨wk.go i _ g3 S3 H hx lw rel3.st, fun H' => ∃ g e S, (g1.new a).le g ∧ Rel X.K X.mg g S0 e S (L2.wipe σ1 vs) H' ∧ compL S1.length vs fg ft fx S0.length (xs.drop (i + 1)) e S = .ok () e2 S2,
      fun H' hN => ⟨xs.length - (i + 1), by omega, rfl, hlt, hN⟩, fun x H' y => ?_⟩
    obtain ⟨g4, x4, r4⟩ := wk.yld i _ g3 S3 H x H' hx lw rel3.st y
    rw [compL] at c3
    cases hfg : fg xs[i] e3 with
    | none => rw [hfg] at c3; cases c3
    | some e4 =>
      rw [hfg] at c3
      dsimp only at c3
      refine hg g4 S0 e3 S3 _ H' xs[i] x e4 _ (rel3.ext x4) r4 hfg fun σ2 rel5 k5 l5 => ⟨wipe_same k5 l5, g4, S0, e4, S3, rel5, ?_⟩
      revert c3
      cases ft S0.length e4 S3 with
      | stuck => exact fun c3 => by cases c3
      | exc c fs e5 S5 => exact fun c3 => by cases c3
      | ok k e5 S5 =>
        intro c3 g6 σ6 H6 t6 l6 rel6
        subst t6
        rw [R.bind_ok] at c3
        have relW : ∀ {g : Gh} {e : Env} {S : Sto} {H : Hp}, Rel X.K X.mg g S0 e S σ6 H → Rel X.K X.mg g S0 (wipeE e vs) S (L2.wipe σ1 vs) H := fun {g e S H} r => by
          have := r.wipe vs
          rw [wipe_same k5 l5] at this
          exact this
        cases k with
        | false =>
          rw [if_neg Bool.false_ne_true] at c3 ⊢
          exact ⟨g6, _, _, (l3.trans x4.le).trans l6, relW rel6, c3⟩
        | true =>
          rw [if_pos rfl] at c3 ⊢
          refine ⟨g6, S0, e5, S5, rel6, ?_⟩
          revert c3
          cases fx S0.length e5 S5 with
          | stuck => exact fun c3 => by cases c3
          | exc c fs e7 S7 => exact fun c3 => by cases c3
          | ok y e7 S7 =>
            intro c3 g7 σ7 H7 t7 l7 rel7 v rv
            subst t7
            rw [R.bind_ok] at c3
            have lg := ((l3.trans x4.le).trans l6).trans l7
            have hid7 := lg.m _ _ hm
            cases hS : S7[S1.length]? with
            | none => rw [hS] at c3; cases c3
            | some ob =>
              rw [hS] at c3
              cases ob with
              | lst w7 acc =>
                dsimp only at c3
                by_cases hl : acc.length < line
                · rw [if_pos hl] at c3
                  obtain ⟨hF, us, h1, h2⟩ := rel7.st.ob _ _ _ hS hid7
                  refine ⟨us, h1, by rw [h2.len, ← line_eq]; exact hl, g7, _, _, lg, relW (rel7.write (ob' := .lst w7 (acc ++ [y])) hS rfl hid7 ⟨hF, _, upd_same, h2.append (.cons rv .nil)⟩ (.inl rel1.le0)), c3⟩
                · rw [if_neg hl] at c3; cases c3
              | dead => cases c3
              | ins c fs => cases c3
  · have e' : i = xs.length := by omega
    subst e'
    rw [List.drop_length, compL] at c3
    cases c3
    refine .inl ⟨wk.stop g3 S2 H (Gh.le_new.trans l3) rel3.st, ?_⟩
    refine q2 g3 σ1 H rfl (Gh.le_new.trans l3) ⟨rel3.st, rel3.le0, rel3.frm, ?_, fun i d h => ?_⟩ a hid
    · have z1 := rel3.el
      rw [wipe_length] at z1
      rw [restE_len]
      exact z1
    · rcases restE_some h with ⟨_, h2⟩ | ⟨h1, h2⟩
      · obtain ⟨v, hv, rv⟩ := rel1.sl i d h2
        exact ⟨v, hv, rv.mono (Gh.le_new.trans l3)⟩
      · obtain ⟨v, hv, rv⟩ := rel3.sl i d h2
        exact ⟨v, (wipe_some hv).1, rv⟩
section
variable {elt tg iter : Expr} {ifs : List Expr} {scope : Scope} {own : List (Str × Nat)} {pos : Pos} {fi : SA} {fg : CT} {gT : TG} {ft : ST} {fx : SE}
theorem re_cr {w : Bool} {W : WX} (ok : Ok X W) (hN : X.N.Nodup) (hi : RI X tg iter fi) (bk : BlkOk X.N X.env.scope scope own)
    (hg : ∀ (s : Shared) (H : Hp) (C : Addr) (cl : List (Str × Addr)) (fp : List Addr), RC (X.blk s H scope (compEnvC scope cl C X.env) fp) tg (own.map (·.2)) fg gT)
    (ht : ∀ (s : Shared) (H : Hp) (C : Addr) (cl : List (Str × Addr)) (fp : List Addr), RTs (X.blk s H scope (compEnvC scope cl C X.env) fp) ifs ft)
    (hx : ∀ (s : Shared) (H : Hp) (C : Addr) (cl : List (Str × Addr)) (fp : List Addr), RE (X.blk s H scope (compEnvC scope cl C X.env) fp) elt fx)
    (hc : X.calm = true := by rfl) (hs : ∀ x, foldedSetIterable iter X.env x = pure x := by intro _; rfl) : PE X (.ListComp elt [⟨tg, iter, ifs, 0⟩] scope pos) (tCR X W (compR w fi (own.map (·.2)) fg ft fx)) :=
  ⟨fun pins s σ H Q I q => (pe_lc hc hN (hi W ok) bk (fun s H C cl fp => (hg s H C cl fp).1) (fun s H C cl fp => ht s H C cl fp W0 (ok_blk ok _ _ _ _ _)) (fun s H C cl fp => hx s H C cl fp W0 (ok_blk ok _ _ _ _ _)) hs).run pins s σ H Q I (lc_read (hg s H 0 [] []).2 q)⟩
theorem compV_read {W : WX} {σ : L2.St} {H : Hp} {Q : VK} {vs : List Nat} (h : tI X W (compV fi vs fg ft fx) σ H Q) : tCR X W (compR true fi vs fg ft fx) σ H Q := by
  obtain ⟨g, S0, e, S, rel, q⟩ := h
  refine ⟨g, S0, e, S, rel, q.bind.imp (fun _ t => t) fun g1 id e1 S1 σ1 H1 t1 l1 rel1 q1 a hm => ?_⟩
  cases hS : S1[id]? with
  | none => rw [hS] at q1; exact q1.elim
  | some ob =>
    rw [hS] at q1
    cases ob with
    | lst w acc =>
      obtain ⟨hF, us, h1, h2⟩ := rel1.st.ob _ _ _ hS hm
      have st' := rel1.st.frost hS rfl hm h1
      have le' : g1.le (g1.frz a (.lst us)) := Gh.le_frz hF
      have rep : Rep X.K X.mg (g1.frz a (.lst us)) (.lst acc) (.ref a) := (h2.mono le').lst (by show upd g1.F a (.lst us) a = _; exact upd_same)
      exact q1 _ σ1 H1 t1 le' (rel1.move le' st' ((KFr.refl S1).set hS (.inr fun _ _ => rfl))) _ rep
    | dead => exact q1.elim
    | ins c fs => exact q1.elim
theorem compO_read {W : WX} {w : Bool} {σ : L2.St} {H : Hp} {Q : VK} {vs : List Nat} (h : tI X W (compO w fi vs fg ft fx) σ H Q) : tCR X W (compR w fi vs fg ft fx) σ H Q := by
  obtain ⟨g, S0, e, S, rel, q⟩ := h
  exact ⟨g, S0, e, S, rel, q.bind.imp (fun _ t => t) fun g1 id e1 S1 σ1 H1 t1 l1 rel1 q1 a hm => q1 g1 σ1 H1 t1 (.refl g1) rel1 _ (.ref hm)⟩
theorem re_compV (hN : X.N.Nodup) (hi : RI X tg iter fi) (bk : BlkOk X.N X.env.scope scope own)
    (hg : ∀ (s : Shared) (H : Hp) (C : Addr) (cl : List (Str × Addr)) (fp : List Addr), RC (X.blk s H scope (compEnvC scope cl C X.env) fp) tg (own.map (·.2)) fg gT)
    (ht : ∀ (s : Shared) (H : Hp) (C : Addr) (cl : List (Str × Addr)) (fp : List Addr), RTs (X.blk s H scope (compEnvC scope cl C X.env) fp) ifs ft)
    (hx : ∀ (s : Shared) (H : Hp) (C : Addr) (cl : List (Str × Addr)) (fp : List Addr), RE (X.blk s H scope (compEnvC scope cl C X.env) fp) elt fx)
    (hc : X.calm = true := by rfl) (hs : ∀ x, foldedSetIterable iter X.env x = pure x := by intro _; rfl) : RE X (.ListComp elt [⟨tg, iter, ifs, 0⟩] scope pos) (compV fi (own.map (·.2)) fg ft fx) := fun W ok => pe_imp (re_cr ok hN hi bk hg ht hx hc hs) fun σ H Q q => compV_read q
theorem re_compO (w : Bool) (hN : X.N.Nodup) (hi : RI X tg iter fi) (bk : BlkOk X.N X.env.scope scope own)
    (hg : ∀ (s : Shared) (H : Hp) (C : Addr) (cl : List (Str × Addr)) (fp : List Addr), RC (X.blk s H scope (compEnvC scope cl C X.env) fp) tg (own.map (·.2)) fg gT)
    (ht : ∀ (s : Shared) (H : Hp) (C : Addr) (cl : List (Str × Addr)) (fp : List Addr), RTs (X.blk s H scope (compEnvC scope cl C X.env) fp) ifs ft)
    (hx : ∀ (s : Shared) (H : Hp) (C : Addr) (cl : List (Str × Addr)) (fp : List Addr), RE (X.blk s H scope (compEnvC scope cl C X.env) fp) elt fx)
    (hc : X.calm = true := by rfl) (hs : ∀ x, foldedSetIterable iter X.env x = pure x := by intro _; rfl) : RE X (.ListComp elt [⟨tg, iter, ifs, 0⟩] scope pos) (compO w fi (own.map (·.2)) fg ft fx) := fun W ok => pe_imp (re_cr ok hN hi bk hg ht hx hc hs) fun σ H Q q => compO_read q
theorem asg_read {W : WX} {w : Bool} {vs : List Nat} {i : Nat} {f : SE} {t : TE} {D : Ends} {σ : L2.St} {H : Hp} (hr : ∀ σ H (Q : VK), tI X W f σ H Q → t σ H Q) (h : tSI X W (asgM f (gnM i)) D σ H) : tAsg t (gName i) D σ H := by
  obtain ⟨g, S0, e, S, rel, q⟩ := h
  refine hr σ H _ ⟨g, S0, e, S, rel, q.bind.imp (fun _ t => trivial) fun g1 d e1 S1 σ1 H1 t1 l1 rel1 q1 v rv => ?_⟩
  subst t1
  unfold gnM at q1
  by_cases hl : i < e1.length
  · rw [if_pos hl, R.bind_ok] at q1
    exact q1 g1 _ H1 trivial (.refl g1) (rel1.slot hl rv)
  · rw [if_neg hl] at q1
    exact q1.elim
/-- name = [..] -/
theorem rs_setLc {i : Nat} {y : Str} {py spos : Pos} {f : SE} {w : Bool} (hN : X.N.Nodup) (hi : RI X tg iter fi) (bk : BlkOk X.N X.env.scope scope own)
    (hg : ∀ (s : Shared) (H : Hp) (C : Addr) (cl : List (Str × Addr)) (fp : List Addr), RC (X.blk s H scope (compEnvC scope cl C X.env) fp) tg (own.map (·.2)) fg gT)
    (ht : ∀ (s : Shared) (H : Hp) (C : Addr) (cl : List (Str × Addr)) (fp : List Addr), RTs (X.blk s H scope (compEnvC scope cl C X.env) fp) ifs ft)
    (hx : ∀ (s : Shared) (H : Hp) (C : Addr) (cl : List (Str × Addr)) (fp : List Addr), RE (X.blk s H scope (compEnvC scope cl C X.env) fp) elt fx)
    (hf : ∀ W σ H (Q : VK), tI X W f σ H Q → tCR X W (compR w fi (own.map (·.2)) fg ft fx) σ H Q)
    (hy : X.N[i]? = some y := by rfl) (hyl : X.env.scope.names.lookup y = some .local := by rfl) (hsw : swapsWith (.ListComp elt [⟨tg, iter, ifs, 0⟩] scope pos) (some (.Name y py)) spos.line X.env = pure true := by exact sw_true rfl rfl rfl (by decide +kernel))
    (hc : X.calm = true := by rfl) (hs : ∀ x, foldedSetIterable iter X.env x = pure x := by intro _; rfl) : RS X (.Assign [.Name y py] (.ListComp elt [⟨tg, iter, ifs, 0⟩] scope pos) spos) (asgM f (gnM i)) := fun W ok =>
  ⟨fun pins s σ H D I q => (ps_setLc (tt := tTI X W0 ft) (te := tI X W0 fx) hc hN hy hyl hsw (hi W ok) bk (fun s H C cl fp => (hg s H C cl fp).1) (fun s H C cl fp => ht s H C cl fp W0 (ok_blk ok _ _ _ _ _)) (fun s H C cl fp => hx s H C cl fp W0 (ok_blk ok _ _ _ _ _)) hs).run pins s σ H D I
    (asg_read (w := w) (vs := []) (fun σ H Q q => lc_read (X := X) (hg s H 0 [] []).2 (hf W σ H Q q)) q)⟩
end
end
end Mir
end

/-! MirMore -/
section
set_option Elab.async false
set_option linter.all false
set_option maxRecDepth 100000
/-! MirMore: is of bools, or as a value, tuple(), a row's names of any row, __init__, the law's end. -/
namespace Mir
open PySem L2

def isB (_ : Sto) (x y : D) : Option Bool := match x, y with
  | .bl a, .bl b => some (decide (a = b))
  | _, _ => none
def isnB (_ : Sto) (x y : D) : Option Bool := match x, y with
  | .bl a, .bl b => some (!decide (a = b))
  | _, _ => none
/-- a or c, a value -/
def orV (a c : SE) : SE := fun b e S => (a b e S).bind fun x e S => (R.opt (truth S x) e S).bind fun k e S => if k = true then .ok x e S else c b e S
def andV (a c : SE) : SE := fun b e S => (a b e S).bind fun x e S => (R.opt (truth S x) e S).bind fun k e S => if k = true then c b e S else .ok x e S
def tupS (S : Sto) (ds : List D) : Option D := match ds with
  | [x] => (match deref S x with
    | .lst xs => some (.tup xs)
    | .frz xs => some (.tup xs)
    | .tup xs => some (.tup xs)
    | _ => none)
  | _ => none
/-- a, b = a row -/
def gqM (n : Nat) (gs : Nat → List D → Env → Sto → R Unit) : SG := fun b d e S => match deref S d with
  | .tup xs => if xs.length = n then gs b xs e S else .stuck
  | .lst xs => if xs.length = n then gs b xs e S else .stuck
  | .frz xs => if xs.length = n then gs b xs e S else .stuck
  | _ => .stuck
section
variable {X : Cx}
theorem ob_isB : OpB X.K X.mg isB (fun x y H Q => ∃ a b, x = .bl a ∧ y = .bl b ∧ Q (.bl (decide (a = b))) H) := fun g S H x y k v u Q r hx hy hz q => by
  unfold isB at hz
  split at hz
  · cases hz; cases hx; cases hy; exact ⟨_, _, rfl, rfl, q⟩
  · cases hz
theorem ob_isnB : OpB X.K X.mg isnB (fun x y H Q => ∃ a b, x = .bl a ∧ y = .bl b ∧ Q (.bl (!decide (a = b))) H) := fun g S H x y k v u Q r hx hy hz q => by
  unfold isnB at hz
  split at hz
  · cases hz; cases hx; cases hy; exact ⟨_, _, rfl, rfl, q⟩
  · cases hz
section
variable {a b : Expr} {pos : Pos} {fa fb : SE}
theorem rt_isB (ha : RE X a fa) (hb : RE X b fb) : RT X (.Compare a [.Is] [b] pos) (cmpT isB fa fb) := rt_cmp op_is_bl ob_isB ha hb (nomark _)
theorem rt_isnB (ha : RE X a fa) (hb : RE X b fb) : RT X (.Compare a [.IsNot] [b] pos) (cmpT isnB fa fb) := rt_cmp op_isnot_bl ob_isnB ha hb (nomark _)
theorem re_isB (ha : RE X a fa) (hb : RE X b fb) : RE X (.Compare a [.Is] [b] pos) (boolM (cmpT isB fa fb)) := re_cmp op_is_bl ob_isB ha hb (nomark _)
theorem re_isnB (ha : RE X a fa) (hb : RE X b fb) : RE X (.Compare a [.IsNot] [b] pos) (boolM (cmpT isnB fa fb)) := re_cmp op_isnot_bl ob_isnB ha hb (nomark _)
end
theorem re_one {op : BoolOp} {a : Expr} {pos : Pos} {f : SE} (h : RE X a f) : RE X (.BoolOp op [a] pos) f := fun W ok => pe_one (h W ok)
theorem re_orV {a b : Expr} {rest : List Expr} {pos : Pos} {fa fb : SE} (ha : RE X a fa) (hb : RE X (.BoolOp .Or (b :: rest) pos) fb) : RE X (.BoolOp .Or (a :: b :: rest) pos) (orV fa fb) := fun W ok => pe_imp (pe_orT (ha W ok) (hb W ok)) fun σ H Q ⟨g, S0, e, S, rel, q⟩ =>
  ⟨g, S0, e, S, rel, q.bind.imp (fun _ t => t) fun g1 x e1 S1 σ1 H1 t1 l1 rel1 q1 v rv => by
    subst t1
    obtain ⟨k, hk, q2⟩ := q1.bind.opt
    refine ⟨k, truth_ok rel1.st rv hk, ?_⟩
    have q3 := q2 g1 _ H1 rfl (.refl g1) rel1
    cases k with
    | true => rw [if_pos rfl] at q3 ⊢; exact q3 g1 _ H1 rfl (.refl g1) rel1 v rv
    | false => rw [if_neg Bool.false_ne_true] at q3 ⊢; exact ⟨g1, S0, e1, S1, rel1, q3⟩⟩
theorem re_andV {a b : Expr} {rest : List Expr} {pos : Pos} {fa fb : SE} (ha : RE X a fa) (hb : RE X (.BoolOp .And (b :: rest) pos) fb) : RE X (.BoolOp .And (a :: b :: rest) pos) (andV fa fb) := fun W ok => pe_imp (pe_andT (ha W ok) (hb W ok)) fun σ H Q ⟨g, S0, e, S, rel, q⟩ =>
  ⟨g, S0, e, S, rel, q.bind.imp (fun _ t => t) fun g1 x e1 S1 σ1 H1 t1 l1 rel1 q1 v rv => by
    subst t1
    obtain ⟨k, hk, q2⟩ := q1.bind.opt
    refine ⟨k, truth_ok rel1.st rv hk, ?_⟩
    have q3 := q2 g1 _ H1 rfl (.refl g1) rel1
    cases k with
    | true => rw [if_pos rfl] at q3 ⊢; exact ⟨g1, S0, e1, S1, rel1, q3⟩
    | false => rw [if_neg Bool.false_ne_true] at q3 ⊢; exact q3 g1 _ H1 rfl (.refl g1) rel1 v rv⟩
theorem cl_tup : CallL X.K X.mg tupS (fun xs H Q => ∃ p ys, xs = [.ref p] ∧ ((SqL X.K H p ys ∧ ∀ l, H l = none → Q (.ref l) (upd H l (.tup ys))) ∨ (SqT X.K H p ys ∧ Q (.ref p) H))) := fun g S H xs z vs Q r h hz q => by
  unfold tupS at hz
  split at hz
  · rename_i x
    obtain ⟨v, r', rfl, rv, rr⟩ := h.inv
    rw [rr.inv0]
    cases x with
    | tup xs =>
      cases hz
      obtain ⟨a, vs, rfl, h1, h2⟩ := Reps.of_tup rv
      exact ⟨_, vs, rfl, .inr ⟨sub_SqT r h1, q g H _ (.refl g H) rv⟩⟩
    | _ =>
      have nx := Now.of r rv
      revert hz nx
      generalize deref S _ = x'
      intro hz nx
      split at hz
      · cases hz
        obtain ⟨a, vs, rfl, h1, h2⟩ := nx.of_lst
        exact ⟨_, vs, rfl, .inl ⟨SqL.of h1, fun p hp => newTup r h2 q hp⟩⟩
      · cases hz
        obtain ⟨a, vs, rfl, h1, h2⟩ := nx.of_frz r
        exact ⟨_, vs, rfl, .inl ⟨h1, fun p hp => newTup r h2 q hp⟩⟩
      · cases hz
        cases nx with | rep n hh =>
        obtain ⟨a, vs, rfl, h1, h2⟩ := Reps.of_tup hh
        exact ⟨_, vs, rfl, .inr ⟨sub_SqT r h1, q g H _ (.refl g H) hh⟩⟩
      · cases hz
  · cases hz
theorem re_tuple {e : Expr} {p pos : Pos} {f : SE} (hg : Gl X "tuple") (hm : X.mg "tuple" = none) (h : RE X e f) (he : starEach [e] X.env = (false, eval e X.env) :: starEach [] X.env := by rfl) : RE X (.Call (.Name "tuple" p) [e] [] pos) (fnA tupS (consA f nilA)) :=
  re_callTy call_tuple_of cl_tup hg hm (by decide +kernel) (ra_cons h ra_nil he) (by decide) (by decide) he
theorem pg_or {tg : Expr} {t t' : TG} (h : PG X tg t) (h' : PG X tg t') : PG X tg (fun v σ H Q => t v σ H Q ∨ t' v σ H Q) := ⟨fun pins s σ H v u Q I r q => by
  rcases q with q | q
  · exact h.run pins s σ H v u Q I r q
  · exact h'.run pins s σ H v u Q I r q⟩
theorem rg_row {es : List Expr} {k n : Nat} {pos : Pos} {fs : Nat → List D → Env → Sto → R Unit} (h : RGs X es fs) (hc : X.calm = true := by rfl) (hn : (assignEach es X.env).length = n := by rfl) (hst : (assignEach es X.env).findIdx? (·.1) = none := by rfl) :
    RG X (.Tuple es k pos) (gqM n fs) := fun W ok => pg_imp (pg_or (pg_tup hc (h W ok) hn hst) (pg_lst hc (h W ok) hn hst)) fun v σ H Q ⟨g, S0, e, S, d, rel, rv, q⟩ => by
  unfold gqM at q
  have nx := Now.of rel.st rv
  revert q nx
  generalize deref S d = d'
  intro q nx
  cases d' with
  | tup xs =>
    dsimp only at q
    by_cases hl : xs.length = n
    · rw [if_pos hl] at q
      obtain ⟨a, vs, rfl, h1, h2⟩ := nx.of_tup rel.st
      exact .inl ⟨a, vs, rfl, h1, h2.len.trans hl, g, S0, e, S, xs, rel, h2, q⟩
    · rw [if_neg hl] at q
      exact q.elim
  | lst xs =>
    dsimp only at q
    by_cases hl : xs.length = n
    · rw [if_pos hl] at q
      obtain ⟨a, vs, rfl, h1, h2⟩ := nx.of_lst
      exact .inr ⟨a, vs, rfl, SqL.of h1, h2.len.trans hl, g, S0, e, S, xs, rel, h2, q⟩
    · rw [if_neg hl] at q
      exact q.elim
  | frz xs =>
    dsimp only at q
    by_cases hl : xs.length = n
    · rw [if_pos hl] at q
      obtain ⟨a, vs, rfl, h1, h2⟩ := nx.of_frz rel.st
      exact .inr ⟨a, vs, rfl, h1, h2.len.trans hl, g, S0, e, S, xs, rel, h2, q⟩
    · rw [if_neg hl] at q
      exact q.elim
  | _ => exact q.elim

/-! ### __init__ -/
theorem KFr.ofLast (S : Sto) : KFr S.dropLast S := by
  refine ⟨by simp, fun i o hi ho => ⟨o, ?_, fun _ q => q⟩⟩
  rw [List.dropLast_eq_take, List.getElem?_take, if_pos (by simpa using hi)]
  exact ho
theorem ini_go {k : Nat} {body : SS} {vs : List V} {H : Hp} {Q : VK} {E : XK} {N : List Str} {n : Nat} (hN : N.length = n) (h : spI X.K X.mg k List.dropLast (iniM n body) vs H Q E) :
    tSI X (fun cls d _ H => E cls d H) body { nx := fun _ H' => Q .non H', rt := Q } (start N vs) H := by
  obtain ⟨g, S, ds, hn, r, hr, q⟩ := h
  refine ⟨g, S.dropLast, _, S, Rel.start (N := N) r (.ofLast S) hr, ?_⟩
  rw [hN, List.length_dropLast]
  unfold iniM at q
  revert q
  cases body (S.length - 1) (ds.map some ++ List.replicate (n - ds.length) none) S with
  | stuck => exact fun q => q
  | exc c fs e1 S1 =>
    intro q
    dsimp only at q
    by_cases hl : limF 0 fs = true
    · rw [if_pos hl] at q
      exact fun g' σ' H' cls d _ l rel x => q g' H' cls d l rel.st rel.kfr x
    · rw [if_neg hl] at q
      exact q.elim
  | ok f e1 S1 =>
    intro q g' σ' H' _ l rel
    cases f with
    | nx => exact q g' H' .non l rel.st rel.kfr .non
    | ret d =>
      intro v rv
      cases d <;> first | (exact q.elim; done) | skip
      cases rv
      exact q g' H' .non l rel.st rel.kfr .non
    | bk => exact q.elim
    | ct => exact q.elim
section
variable {P : Program} {w : World} {K : PySem.W.Frag} {mg : Str → Option Value} {base : Heap}
/-- THE RULE for an __init__ -/
theorem ini_ok {x qual : Str} {st : Stmt} {f : Addr} {fd : FuncData} {N ps : List Str} {k n c : Nat} {body : SS} (F : Fun K x qual st f fd) (S : FnScope N ps (defScope st)) (hN : N.length = n) (hc : ps.length = c)
    (h : ∀ (cdv : Value) (A : Around) (outer : List PySem.Env) (s : Shared) (H : Hp) (E : XK), Room k (A.deeper (PyProof.Rows.envOfC qual (defScope st) s.heap.objs.size f cdv)) →
      RSs (cxOf (L2.CX P w) P w K mg base N qual (defScope st) f cdv A outer s H E) (defBody st) body) : FnOk P w K mg base (L2.CX P w) (k + 1) f fd ps (spI K mg c List.dropLast (iniM n body)) := by
  refine F.okX S (fun vs H Q E h => by rw [spI_len vs H Q E h, hc]) fun cdv A outer s H vs Q E hr hsp => ?_
  refine ⟨_, h cdv A outer s H E hr (fun cls d _ H => E cls d H) ⟨takes_of rfl rfl rfl rfl, passes_of rfl, hr.units⟩, ini_go (X := cxOf (L2.CX P w) P w K mg base N qual (defScope st) f cdv A outer s H E) hN hsp⟩

/-! ### the law's end -/
/-- the law's promise: where its meaning answers True -/
def spL (K : PySem.W.Frag) (m : SF) : Sp := fun vs H Q _ => ∃ (a : Addr) (ns : List Int), vs = [.ref a] ∧ SqL K H a (ns.map V.int) ∧ (∃ e S', m [.frz (ns.map D.int)] [] = .ok (.bl true) e S') ∧ ∀ H', Q (.bl true) H'
theorem spL_of {m : SF} (vs : List V) (H : Hp) (Q : VK) (E : XK) (h : spL K m vs H Q E) : spI K mg 1 id m vs H Q E := by
  obtain ⟨a, ns, rfl, hs, ⟨e, S', hm⟩, q⟩ := h
  refine ⟨⟨H, [], fun _ => none⟩, [], [.frz (ns.map D.int)], rfl, ⟨fun _ _ h => h, rfl, fun i o a h => by simp at h, fun i j o o' a h => by simp at h⟩, .cons (.frz hs (by simp) fun i d v h1 h2 => ?_) .nil, ?_⟩
  · rw [List.getElem?_map] at h1 h2
    cases hn : ns[i]? with
    | none => rw [hn] at h1; cases h1
    | some z => rw [hn] at h1 h2; cases h1; cases h2; exact .int
  · rw [hm]
    intro g' H' v _ _ _ rv
    cases rv
    exact q H'
end
end
theorem law_end {l : PySem.W.OpenLaw} {q : Program} {loose : List Str} {XP : (Str → Option Value) → Heap → Prop} {YP : World → Heap → Prop} {d : DefRec} {K : Params → PySem.W.Frag} {k : Nat} {x : Str} {m : SF} (hn : l.most = some 63) (hdf : d.params.defaults = []) (hr : Room k callerA)
    (hY : ∀ (w : World) (h : Heap), YP w h → (K w.params).In h)
    (F : ∀ (w : World) (mg : Str → Option Value) (fa : Addr) (h : Heap), (K w.params).In h → h.Ns mainGlobals mg → mg d.name = some (.ref fa) →
      ∃ fd : FuncData, (∀ (s : Shared) (u : Value), BindsTo s fd ⟨[u], []⟩ [(x, u)]) ∧
        ∀ base : Heap, (K w.params).In base → base.Ns mainGlobals mg → FnOk l.prog w (K w.params) mg base (L2.CX l.prog w) k fa fd [x] (spI (K w.params) mg 1 id m))
    (law : ∀ ns : List Int, ns.length ≤ 63 → (∀ z ∈ ns, Builtin.Int.intBits z ≤ 1048576) → ∃ e S', m [.frz (ns.map D.int)] [] = .ok (.bl true) e S') :
    PySem.W.WalkO q loose XP YP l.row.toRowW d [] (fun f vs => PySem.call f vs) :=
  walk_ofB (n := 63) (k := k) (x := x) (CX := fun w => L2.CX l.prog w) (sp := fun w => spL (K w.params) m) hn (by decide) hdf hr hY
    (fun w mg fa h a b c => let ⟨fd, h1, h2⟩ := F w mg fa h a b c; ⟨fd, h1, fun base x y => (h2 base x y).imp fun vs H Q E z => spL_of vs H Q E z⟩)
    (fun w H a ns h1 h2 _ h4 => ⟨a, ns, rfl, h4, law ns h1 h2, fun _ => rfl⟩)
    (fun w H s e s' ⟨_, _, _, _, _, _, _, _, _, _, _, _, z⟩ => z)
end Mir
end

/-! MirDef -/
section
set_option Elab.async false
set_option linter.all false
set_option maxRecDepth 100000
/-! MirDef: defs of a module as callees by name; not by truth; what is written of a def. -/
namespace Mir
open PySem L2

/-- a def of the module at hand: its promise by its meaning -/
def DefOk (P : Program) (w : World) (K : PySem.W.Frag) (mg : Str → Option Value) (base : Heap) (x : String) (k lvl : Nat) (m : SF) : Prop :=
  ∃ f fd ps, mg (nm x) = some (.ref f) ∧ PySem.W.keepIn K (.ref f) = true ∧ FnOk P w K mg base (L2.CX P w) lvl f fd ps (spI K mg k id m) ∧ Binds K fd ps []
/-- what the written part tells of a def -/
def FunD (K : PySem.W.Frag) (mg : Str → Option Value) (x q : String) (st : Stmt) : Prop := ∃ f fd, mg (nm x) = some (.ref f) ∧ PySem.W.keepIn K (.ref f) = true ∧ Fun K (nm x) (nm q) st f fd
theorem funD_mk {K : PySem.W.Frag} {h : Heap} {mg : Str → Option Value} {x q : String} {st : Stmt} {f : Addr} {oc : Value} {od an : Option Addr} {osl : Array (Option Value)} {kV doc pm cdv ct : Value} (X : K.In h) (G : h.Ns mainGlobals mg)
    (a : PySem.W.nsIn K mainGlobals (nm x) = some (some (.ref f))) (l : K.lookup f = some ⟨oc, od, .func (PySem.W.fnOf (nm x) (nm q) (defArgs st) (defBody st) (defScope st) .none kV doc pm an cdv ct), osl⟩)
    (c : PySem.W.codeIn K cdv (nm q) = true) (k : PySem.W.keepIn K (.ref f) = true) : FunD K mg x q st := ⟨f, _, PySem.W.mg_of X G a, k, fun_mk (st := st) l c k⟩
theorem FunD.ok {P : Program} {w : World} {K : PySem.W.Frag} {mg : Str → Option Value} {base : Heap} {x q : String} {st : Stmt} {k lvl : Nat} {m : SF} (D : FunD K mg x q st) (ps : List Str)
    (h : ∀ f fd, Fun K (nm x) (nm q) st f fd → FnOk P w K mg base (L2.CX P w) lvl f fd ps (spI K mg k id m))
    (hb : ∀ (kV doc pm : Value) (an : Option Addr) (cdv ct : Value) (us : List Value), us.length = ps.length → bindArgs (PySem.W.fnOf (nm x) (nm q) (defArgs st) (defBody st) (defScope st) .none kV doc pm an cdv ct) ⟨us, []⟩ = pure (ps.zip us)) :
    DefOk P w K mg base x k lvl m := by
  obtain ⟨f, fd, h1, h2, F⟩ := D
  exact ⟨f, fd, ps, h1, h2, h f fd F, F.binds (ps := ps) hb⟩
section
variable {X : Cx}
theorem re_callD {x : String} {e : Expr} {es : List Expr} {p pos : Pos} {k lvl : Nat} {m : SF} {fs : SA} (D : DefOk X.prog X.w X.K X.mg X.base x k lvl m) (hr : Room lvl X.A) (hg : Gl X (nm x))
    (ha : RA X (e :: es) fs) (hdb : (nm x == ("__debug__" : Str)) = false := by decide +kernel) (he : starEach (e :: es) X.env = (false, eval e X.env) :: starEach es X.env := by rfl) (hpl : (backTo pos (starEach es X.env)).any (·.1) = false := by rfl) :
    RE X (.Call (.Name (nm x) p) (e :: es) [] pos) (callM m k fs) := by
  obtain ⟨f, fd, ps, h1, h2, F, b⟩ := D
  exact re_call ⟨fd, ps, lvl, F, b, hr⟩ hg h1 h2 ha hdb he hpl
theorem re_callD0 {x : String} {p pos : Pos} {lvl : Nat} {m : SF} (D : DefOk X.prog X.w X.K X.mg X.base x 0 lvl m) (hr : Room lvl X.A) (hg : Gl X (nm x)) (hdb : (nm x == ("__debug__" : Str)) = false := by decide +kernel) :
    RE X (.Call (.Name (nm x) p) [] [] pos) (callM m 0 nilA) := by
  obtain ⟨f, fd, ps, h1, h2, F, b⟩ := D
  exact re_call0 ⟨fd, ps, lvl, F, b, hr⟩ hg h1 h2 hdb
theorem ro_none : RO X none none := True.intro
theorem ro_some {e : Expr} {f : SE} (h : RE X e f) : RO X (some e) (some f) := h
theorem re_edi {pos : Pos} : RE X (.Dict [] [] pos) (cM .edi) := fun W ok => pe_imp pe_dnewK fun σ H Q ⟨g, S0, e, S, rel, q⟩ p hp => by
  have x := Ext.frz (o := .dK []) rel.st hp
  exact q _ σ _ rfl x.le (rel.ext x) _ (.edi (by show upd g.F p _ p = _; exact upd_same))
/-- not a, by truth -/
def notV (a : SE) : SE := fun b e S => (a b e S).bind fun x e S => (R.opt (truth S x) e S).bind fun k e S => .ok (.bl (!k)) e S
theorem re_notV {a : Expr} {pos : Pos} {fa : SE} (ha : RE X a fa) : RE X (.UnaryOp .Not a pos) (notV fa) := fun W ok => pe_imp (pe_notT (ha W ok)) fun σ H Q ⟨g, S0, e, S, rel, q⟩ =>
  ⟨g, S0, e, S, rel, q.bind.imp (fun _ t => t) fun g1 x e1 S1 σ1 H1 t1 l1 rel1 q1 v rv => by
    subst t1
    obtain ⟨k, hk, q2⟩ := q1.bind.opt
    exact ⟨k, truth_ok rel1.st rv hk, q2 g1 _ H1 rfl (.refl g1) rel1 g1 _ H1 rfl (.refl g1) rel1 _ .bl⟩⟩
end

/-! ### isinstance of a built-in type -/
def ty_bool : List (String × Bool) := [("NoneType", false), ("bool", true), ("int", false), ("str", false), ("bytes", false), ("list", false), ("tuple", false), ("dict", false)]
theorem it_bool {X : Cx} (n : NoTy X) : ITbl X (fun t b => PySem.W.kitOne X.K t (.type "bool") = some b) ty_bool := by
  obtain ⟨n1, n2, n3, n4, n5, n6, n7, n8⟩ := n
  exact .ty rfl n1 (.ty rfl n2 (.ty rfl n3 (.ty rfl n4 (.ty rfl n5 (.ty rfl n6 (.ty rfl n7 (.ty rfl n8 .nil)))))))
theorem re_isi_bool {X : Cx} {e : Expr} {p p2 pos : Pos} {f : SE} (hg : Gl X "isinstance") (hm : X.mg "isinstance" = none) (nt : NoTy X) (hg2 : Gl X "bool") (hm2 : X.mg "bool" = none) (h : RE X e f)
    (he : starEach [e, .Name "bool" p2] X.env = (false, eval e X.env) :: starEach [.Name "bool" p2] X.env := by rfl) (he2 : starEach [.Name "bool" p2] X.env = (false, eval (.Name "bool" p2) X.env) :: starEach [] X.env := by rfl) (hpl : (backTo pos (starEach [.Name "bool" p2] X.env)).any (·.1) = false := by rfl) :
    RE X (.Call (.Name "isinstance" p) [e, .Name "bool" p2] [] pos) (boolM (isiM ty_bool f)) := re_isi hg hm nt h (pe_bltn hg2 hm2 (by decide +kernel) (show RelV (.ty "bool") (.type "bool") from rfl)) (.ty "bool") (it_bool nt) he he2 hpl
def ty_int : List (String × Bool) := [("NoneType", false), ("bool", true), ("int", true), ("str", false), ("bytes", false), ("list", false), ("tuple", false), ("dict", false)]
theorem it_int {X : Cx} (n : NoTy X) : ITbl X (fun t b => PySem.W.kitOne X.K t (.type "int") = some b) ty_int := by
  obtain ⟨n1, n2, n3, n4, n5, n6, n7, n8⟩ := n
  exact .ty rfl n1 (.ty rfl n2 (.ty rfl n3 (.ty rfl n4 (.ty rfl n5 (.ty rfl n6 (.ty rfl n7 (.ty rfl n8 .nil)))))))
theorem re_isi_int {X : Cx} {e : Expr} {p p2 pos : Pos} {f : SE} (hg : Gl X "isinstance") (hm : X.mg "isinstance" = none) (nt : NoTy X) (hg2 : Gl X "int") (hm2 : X.mg "int" = none) (h : RE X e f)
    (he : starEach [e, .Name "int" p2] X.env = (false, eval e X.env) :: starEach [.Name "int" p2] X.env := by rfl) (he2 : starEach [.Name "int" p2] X.env = (false, eval (.Name "int" p2) X.env) :: starEach [] X.env := by rfl) (hpl : (backTo pos (starEach [.Name "int" p2] X.env)).any (·.1) = false := by rfl) :
    RE X (.Call (.Name "isinstance" p) [e, .Name "int" p2] [] pos) (boolM (isiM ty_int f)) := re_isi hg hm nt h (pe_bltn hg2 hm2 (by decide +kernel) (show RelV (.ty "int") (.type "int") from rfl)) (.ty "int") (it_int nt) he he2 hpl
def ty_str : List (String × Bool) := [("NoneType", false), ("bool", false), ("int", false), ("str", true), ("bytes", false), ("list", false), ("tuple", false), ("dict", false)]
theorem it_str {X : Cx} (n : NoTy X) : ITbl X (fun t b => PySem.W.kitOne X.K t (.type "str") = some b) ty_str := by
  obtain ⟨n1, n2, n3, n4, n5, n6, n7, n8⟩ := n
  exact .ty rfl n1 (.ty rfl n2 (.ty rfl n3 (.ty rfl n4 (.ty rfl n5 (.ty rfl n6 (.ty rfl n7 (.ty rfl n8 .nil)))))))
theorem re_isi_str {X : Cx} {e : Expr} {p p2 pos : Pos} {f : SE} (hg : Gl X "isinstance") (hm : X.mg "isinstance" = none) (nt : NoTy X) (hg2 : Gl X "str") (hm2 : X.mg "str" = none) (h : RE X e f)
    (he : starEach [e, .Name "str" p2] X.env = (false, eval e X.env) :: starEach [.Name "str" p2] X.env := by rfl) (he2 : starEach [.Name "str" p2] X.env = (false, eval (.Name "str" p2) X.env) :: starEach [] X.env := by rfl) (hpl : (backTo pos (starEach [.Name "str" p2] X.env)).any (·.1) = false := by rfl) :
    RE X (.Call (.Name "isinstance" p) [e, .Name "str" p2] [] pos) (boolM (isiM ty_str f)) := re_isi hg hm nt h (pe_bltn hg2 hm2 (by decide +kernel) (show RelV (.ty "str") (.type "str") from rfl)) (.ty "str") (it_str nt) he he2 hpl
def ty_bytes : List (String × Bool) := [("NoneType", false), ("bool", false), ("int", false), ("str", false), ("bytes", true), ("list", false), ("tuple", false), ("dict", false)]
theorem it_bytes {X : Cx} (n : NoTy X) : ITbl X (fun t b => PySem.W.kitOne X.K t (.type "bytes") = some b) ty_bytes := by
  obtain ⟨n1, n2, n3, n4, n5, n6, n7, n8⟩ := n
  exact .ty rfl n1 (.ty rfl n2 (.ty rfl n3 (.ty rfl n4 (.ty rfl n5 (.ty rfl n6 (.ty rfl n7 (.ty rfl n8 .nil)))))))
theorem re_isi_bytes {X : Cx} {e : Expr} {p p2 pos : Pos} {f : SE} (hg : Gl X "isinstance") (hm : X.mg "isinstance" = none) (nt : NoTy X) (hg2 : Gl X "bytes") (hm2 : X.mg "bytes" = none) (h : RE X e f)
    (he : starEach [e, .Name "bytes" p2] X.env = (false, eval e X.env) :: starEach [.Name "bytes" p2] X.env := by rfl) (he2 : starEach [.Name "bytes" p2] X.env = (false, eval (.Name "bytes" p2) X.env) :: starEach [] X.env := by rfl) (hpl : (backTo pos (starEach [.Name "bytes" p2] X.env)).any (·.1) = false := by rfl) :
    RE X (.Call (.Name "isinstance" p) [e, .Name "bytes" p2] [] pos) (boolM (isiM ty_bytes f)) := re_isi hg hm nt h (pe_bltn hg2 hm2 (by decide +kernel) (show RelV (.ty "bytes") (.type "bytes") from rfl)) (.ty "bytes") (it_bytes nt) he he2 hpl
def ty_list : List (String × Bool) := [("NoneType", false), ("bool", false), ("int", false), ("str", false), ("bytes", false), ("list", true), ("tuple", false), ("dict", false)]
theorem it_list {X : Cx} (n : NoTy X) : ITbl X (fun t b => PySem.W.kitOne X.K t (.type "list") = some b) ty_list := by
  obtain ⟨n1, n2, n3, n4, n5, n6, n7, n8⟩ := n
  exact .ty rfl n1 (.ty rfl n2 (.ty rfl n3 (.ty rfl n4 (.ty rfl n5 (.ty rfl n6 (.ty rfl n7 (.ty rfl n8 .nil)))))))
theorem re_isi_list {X : Cx} {e : Expr} {p p2 pos : Pos} {f : SE} (hg : Gl X "isinstance") (hm : X.mg "isinstance" = none) (nt : NoTy X) (hg2 : Gl X "list") (hm2 : X.mg "list" = none) (h : RE X e f)
    (he : starEach [e, .Name "list" p2] X.env = (false, eval e X.env) :: starEach [.Name "list" p2] X.env := by rfl) (he2 : starEach [.Name "list" p2] X.env = (false, eval (.Name "list" p2) X.env) :: starEach [] X.env := by rfl) (hpl : (backTo pos (starEach [.Name "list" p2] X.env)).any (·.1) = false := by rfl) :
    RE X (.Call (.Name "isinstance" p) [e, .Name "list" p2] [] pos) (boolM (isiM ty_list f)) := re_isi hg hm nt h (pe_bltn hg2 hm2 (by decide +kernel) (show RelV (.ty "list") (.type "list") from rfl)) (.ty "list") (it_list nt) he he2 hpl
def ty_tuple : List (String × Bool) := [("NoneType", false), ("bool", false), ("int", false), ("str", false), ("bytes", false), ("list", false), ("tuple", true), ("dict", false)]
theorem it_tuple {X : Cx} (n : NoTy X) : ITbl X (fun t b => PySem.W.kitOne X.K t (.type "tuple") = some b) ty_tuple := by
  obtain ⟨n1, n2, n3, n4, n5, n6, n7, n8⟩ := n
  exact .ty rfl n1 (.ty rfl n2 (.ty rfl n3 (.ty rfl n4 (.ty rfl n5 (.ty rfl n6 (.ty rfl n7 (.ty rfl n8 .nil)))))))
theorem re_isi_tuple {X : Cx} {e : Expr} {p p2 pos : Pos} {f : SE} (hg : Gl X "isinstance") (hm : X.mg "isinstance" = none) (nt : NoTy X) (hg2 : Gl X "tuple") (hm2 : X.mg "tuple" = none) (h : RE X e f)
    (he : starEach [e, .Name "tuple" p2] X.env = (false, eval e X.env) :: starEach [.Name "tuple" p2] X.env := by rfl) (he2 : starEach [.Name "tuple" p2] X.env = (false, eval (.Name "tuple" p2) X.env) :: starEach [] X.env := by rfl) (hpl : (backTo pos (starEach [.Name "tuple" p2] X.env)).any (·.1) = false := by rfl) :
    RE X (.Call (.Name "isinstance" p) [e, .Name "tuple" p2] [] pos) (boolM (isiM ty_tuple f)) := re_isi hg hm nt h (pe_bltn hg2 hm2 (by decide +kernel) (show RelV (.ty "tuple") (.type "tuple") from rfl)) (.ty "tuple") (it_tuple nt) he he2 hpl
end Mir
end

/-! Sh -/
section
set_option linter.all false
set_option maxRecDepth 100000
/-! Sh: meanings of the defs that several laws share (written by gen.py). -/
namespace Mir.Sh
open Mir
noncomputable def b__law_well_0 : SS := retM (ownM false (lstA (consA (varM 0) (consA (cM (.int 0)) (nilA)))))
noncomputable def m__law_well : SF := fnM 1 true (b__law_well_0)
noncomputable def b__law_draw_0 : SS := ifM (cmpT geS (op2 idxS (rawM 0) (cM (.int 0))) (op2 powS (cM (.int 10)) (cM (.int 18)))) (seqM (asgM (op2 modS (fnA intS (consA (op2 idxS (rawM 0) (cM (.int 0))) nilA)) (rawM 1)) (gnM 4)) (seqM (asgM (op2 fdivS (op2 idxS (rawM 0) (cM (.int 0))) (rawM 1)) (gsM (rawM 0) (cM (.int 0)))) (retM (varM 4)))) (nxM)
noncomputable def b__law_draw_1 : SS := asgM (op2 addS (op2 idxS (rawM 0) (cM (.int 1))) (cM (.int 1))) (gsM (rawM 0) (cM (.int 1)))
noncomputable def b__law_draw_2 : SS := asgM (op2 modS (op2 mulS (op2 addS (op2 addS (op2 modS (fnA intS (consA (op2 idxS (rawM 0) (cM (.int 0))) nilA)) (cM (.int 2147483629))) (op2 mulS (cM (.int 60013)) (op2 idxS (rawM 0) (cM (.int 1))))) (cM (.int 11))) (cM (.int 48271))) (cM (.int 2147483647))) (gnM 2)
noncomputable def b__law_draw_3 : SS := asgM (op2 modS (op2 fdivS (op2 idxS (rawM 0) (cM (.int 0))) (cM (.int 2147483629))) (cM (.int 9973))) (gnM 3)
noncomputable def b__law_draw_4 : SS := asgM (op2 modS (fnA intS (consA (op2 mulS (rawM 2) (op2 addS (op2 addS (op2 fdivS (rawM 2) (cM (.int 1013))) (cM (.int 40692))) (rawM 3))) nilA)) (cM (.int 2147483587))) (gnM 2)
noncomputable def b__law_draw_5 : SS := retM (op2 modS (fnA intS (consA (op2 fdivS (op2 modS (fnA intS (consA (op2 mulS (rawM 2) (op2 addS (op2 fdivS (rawM 2) (cM (.int 2003))) (cM (.int 69621)))) nilA)) (cM (.int 2147483563))) (cM (.int 5))) nilA)) (rawM 1))
noncomputable def m__law_draw : SF := fnM 5 false (seqM b__law_draw_0 (seqM b__law_draw_1 (seqM b__law_draw_2 (seqM b__law_draw_3 (seqM b__law_draw_4 (b__law_draw_5))))))
noncomputable def b__law_one_0 : SS := retM (op2 idxS (rawM 1) (callM m__law_draw 2 (consA (varM 0) (consA (fnA lenS (consA (rawM 1) nilA)) (nilA)))))
noncomputable def m__law_one : SF := fnM 2 false (b__law_one_0)
noncomputable def b__law_line_0 : SS := asgM (callM m__law_draw 2 (consA (varM 0) (consA (cM (.int 8)) (nilA)))) (gnM 2)
noncomputable def b__law_line_1 : SS := ifM (cmpT ltS (rawM 2) (cM (.int 5))) (retM (fnA min2S (consA (cM (.int 2147483647)) (consA (fnA max2S (consA (cM (.int 1)) (consA (op2 subS (op2 subS (op2 addS (rawM 1) (rawM 2)) (cM (.int 1))) (op2 mulS (cM (.int 2)) (callM m__law_draw 2 (consA (varM 0) (consA (cM (.int 2)) (nilA)))))) nilA))) nilA)))) (nxM)
noncomputable def b__law_line_2 : SS := retM (callM m__law_one 2 (consA (varM 0) (consA (frzM (lstA (consA (cM (.int 1)) (consA (cM (.int 2147483647)) (consA (op2 addS (cM (.int 1)) (callM m__law_draw 2 (consA (varM 0) (consA (cM (.int 200)) (nilA))))) (consA (op2 addS (cM (.int 1)) (callM m__law_draw 2 (consA (varM 0) (consA (cM (.int 2147483647)) (nilA))))) (nilA))))))) (nilA))))
noncomputable def m__law_line : SF := fnM 3 false (seqM b__law_line_0 (seqM b__law_line_1 (b__law_line_2)))
noncomputable def b__law_column_0 : SS := asgM (frzM (lstA (consA (callM m__law_draw 2 (consA (varM 0) (consA (cM (.int 12)) (nilA)))) (consA (callM m__law_draw 2 (consA (varM 0) (consA (cM (.int 82)) (nilA)))) (consA (callM m__law_draw 2 (consA (varM 0) (consA (cM (.int 131)) (nilA)))) (nilA)))))) (gnM 1)
noncomputable def b__law_column_1 : SS := retM (callM m__law_one 2 (consA (varM 0) (consA (op2 addS (rawM 1) (frzM (lstA (consA (op2 subS (cM (.int 2147483647)) (callM m__law_draw 2 (consA (varM 0) (consA (cM (.int 9)) (nilA))))) (nilA))))) (nilA))))
noncomputable def m__law_column : SF := fnM 2 false (seqM b__law_column_0 (b__law_column_1))
noncomputable def b__law_span_0 : SS := asgM (callM m__law_draw 2 (consA (varM 0) (consA (cM (.int 8)) (nilA)))) (gnM 2)
noncomputable def b__law_span_1 : SS := ifM (cmpT eqS (rawM 2) (cM (.int 0))) (retM (cM .non)) (nxM)
noncomputable def b__law_span_2 : SS := asgM (callM m__law_line 2 (consA (varM 0) (consA (varM 1) (nilA)))) (gnM 3)
noncomputable def b__law_span_3 : SS := ifM (cmpT eqS (rawM 2) (cM (.int 1))) (retM (tupM (consA (varM 3) (consA (varM 3) (consA (cM .non) (consA (cM .non) (nilA))))))) (nxM)
noncomputable def b__law_span_4 : SS := asgM (callM m__law_column 1 (consA (varM 0) (nilA))) (gnM 4)
noncomputable def b__law_span_5 : SS := asgM (callM m__law_draw 2 (consA (varM 0) (consA (callM m__law_one 2 (consA (varM 0) (consA (frzM (lstA (consA (cM (.int 17)) (consA (cM (.int 40)) (consA (cM (.int 130)) (consA (op2 powS (cM (.int 10)) (cM (.int 6))) (nilA))))))) (nilA)))) (nilA)))) (gnM 5)
noncomputable def b__law_span_6 : SS := asgM (varM 3) (gnM 6)
noncomputable def b__law_span_7 : SS := ifM (cmpT gtS (rawM 2) (cM (.int 5))) (asgM (fnA min2S (consA (cM (.int 2147483647)) (consA (op2 addS (rawM 3) (callM m__law_one 2 (consA (varM 0) (consA (frzM (lstA (consA (cM (.int 1)) (consA (callM m__law_draw 2 (consA (varM 0) (consA (cM (.int 70)) (nilA)))) (consA (callM m__law_draw 2 (consA (varM 0) (consA (op2 powS (cM (.int 10)) (cM (.int 6))) (nilA)))) (nilA)))))) (nilA))))) nilA))) (gnM 6)) (nxM)
noncomputable def b__law_span_8 : SS := ifM (cmpT gtS (rawM 6) (rawM 3)) (retM (tupM (consA (varM 3) (consA (varM 6) (consA (varM 4) (consA (callM m__law_column 1 (consA (varM 0) (nilA))) (nilA))))))) (nxM)
noncomputable def b__law_span_9 : SS := retM (tupM (consA (varM 3) (consA (varM 3) (consA (varM 4) (consA (fnA min2S (consA (cM (.int 2147483647)) (consA (op2 addS (rawM 4) (rawM 5)) nilA))) (nilA))))))
noncomputable def m__law_span : SF := fnM 7 false (seqM b__law_span_0 (seqM b__law_span_1 (seqM b__law_span_2 (seqM b__law_span_3 (seqM b__law_span_4 (seqM b__law_span_5 (seqM b__law_span_6 (seqM b__law_span_7 (seqM b__law_span_8 (b__law_span_9))))))))))
noncomputable def b_is_integer_0 : SS := ifM (orT (notT (tstM (boolM (isiM ty_int (rawM 0))))) (tstM (boolM (isiM ty_bool (rawM 0))))) (retM (cM (.bl false))) (nxM)
noncomputable def b_is_integer_1 : SS := retM (andV (orV (boolM (cmpT isS (rawM 1) (cM .non))) (boolM (cmpT geS (rawM 0) (rawM 1)))) (orV (boolM (cmpT isS (rawM 2) (cM .non))) (boolM (cmpT leS (rawM 0) (rawM 2)))))
noncomputable def m_is_integer : SF := fnM 3 false (seqM b_is_integer_0 (b_is_integer_1))
noncomputable def b_is_ordered_0 : SS := ifM (andT (cmpT isS (rawM 2) (cM .non)) (cmpT isS (rawM 3) (cM .non))) (retM (boolM (cmpT eqS (rawM 0) (rawM 1)))) (nxM)
noncomputable def b_is_ordered_1 : SS := ifM (orT (notT (tstM (callM m_is_integer 3 (consA (varM 2) (consA (cM (.int 0)) (consA (cM (.int 2147483647)) (nilA))))))) (notT (tstM (callM m_is_integer 3 (consA (varM 3) (consA (cM (.int 0)) (consA (cM (.int 2147483647)) (nilA)))))))) (retM (cM (.bl false))) (nxM)
noncomputable def b_is_ordered_2 : SS := retM (orV (boolM (cmpT ltS (rawM 0) (rawM 1))) (boolM (cmpT leS (rawM 2) (rawM 3))))
noncomputable def m_is_ordered : SF := fnM 4 false (seqM b_is_ordered_0 (seqM b_is_ordered_1 (b_is_ordered_2)))
noncomputable def b_is_span_0 : SS := ifM (cmpT isS (rawM 0) (cM .non)) (retM (cM (.bl true))) (nxM)
noncomputable def b_is_span_1 : SS := ifM (orT (notT (tstM (boolM (isiM ty_tuple (rawM 0))))) (cmpT neS (fnA lenS (consA (rawM 0) nilA)) (cM (.int 4)))) (retM (cM (.bl false))) (nxM)
noncomputable def b_is_span_2 : SS := asgM (varM 0) (gqM 4 (gsCons (gnM 1) (gsCons (gnM 2) (gsCons (gnM 3) (gsCons (gnM 4) (gsNil))))))
noncomputable def b_is_span_3 : SS := ifM (orT (notT (tstM (callM m_is_integer 3 (consA (varM 1) (consA (cM (.int 1)) (consA (cM (.int 2147483647)) (nilA))))))) (notT (tstM (callM m_is_integer 3 (consA (varM 2) (consA (varM 1) (consA (cM (.int 2147483647)) (nilA)))))))) (retM (cM (.bl false))) (nxM)
noncomputable def b_is_span_4 : SS := retM (callM m_is_ordered 4 (consA (varM 1) (consA (varM 2) (consA (varM 3) (consA (varM 4) (nilA))))))
noncomputable def m_is_span : SF := fnM 5 false (seqM b_is_span_0 (seqM b_is_span_1 (seqM b_is_span_2 (seqM b_is_span_3 (b_is_span_4)))))
end Mir.Sh
end

/-! K01_M -/
section
set_option linter.all false
set_option maxRecDepth 100000
/-! K01_M: the meanings of the defs that the law reaches (written by gen.py). -/
namespace Mir.K01
open Mir Mir.Sh
noncomputable def b__law_whole_0 : SS := retM (andV (boolM (isiM ty_int (rawM 0))) (andV (notV (boolM (isiM ty_bool (rawM 0)))) (boolM (chnT leS leS (rawM 1) (rawM 0) (cM (.int 2147483647))))))
noncomputable def m__law_whole : SF := fnM 2 false (b__law_whole_0)
noncomputable def b__law_is_span_0 : SS := asgM (varM 0) (gqM 4 (gsCons (gnM 1) (gsCons (gnM 2) (gsCons (gnM 3) (gsCons (gnM 4) (gsNil))))))
noncomputable def b__law_is_span_1 : SS := ifM (orT (notT (tstM (callM m__law_whole 2 (consA (varM 1) (consA (cM (.int 1)) (nilA)))))) (orT (notT (tstM (callM m__law_whole 2 (consA (varM 2) (consA (cM (.int 1)) (nilA)))))) (cmpT ltS (rawM 2) (rawM 1)))) (retM (cM (.bl false))) (nxM)
noncomputable def b__law_is_span_2 : SS := ifM (andT (cmpT isS (rawM 3) (cM .non)) (cmpT isS (rawM 4) (cM .non))) (retM (boolM (cmpT eqS (rawM 1) (rawM 2)))) (nxM)
noncomputable def b__law_is_span_3 : SS := ifM (orT (notT (tstM (callM m__law_whole 2 (consA (varM 3) (consA (cM (.int 0)) (nilA)))))) (notT (tstM (callM m__law_whole 2 (consA (varM 4) (consA (cM (.int 0)) (nilA))))))) (retM (cM (.bl false))) (nxM)
noncomputable def b__law_is_span_4 : SS := retM (orV (boolM (cmpT gtS (rawM 2) (rawM 1))) (boolM (cmpT leS (rawM 3) (rawM 4))))
noncomputable def m__law_is_span : SF := fnM 5 false (seqM b__law_is_span_0 (seqM b__law_is_span_1 (seqM b__law_is_span_2 (seqM b__law_is_span_3 (b__law_is_span_4)))))
noncomputable def l_law_0_9 : SS := ifM (cmpT isnB (callM m_is_span 1 (consA (varM 7) (nilA))) (cM (.bl false))) (retM (cM (.bl false))) (nxM)
noncomputable def l_law_0_8 : SS := seqM (asgM (callM m__law_one 2 (consA (varM 2) (consA (frzM (lstA (consA (varM 4) (consA (tupM (nilA)) (consA (tupM (consA (cM (.int 1)) (consA (cM (.int 1)) (nilA)))) (consA (tupM (consA (cM (.int 1)) (consA (cM (.int 1)) (consA (cM (.int 0)) (consA (cM (.int 0)) (consA (cM (.int 0)) (nilA))))))) (consA (cM (.str (cps "span"))) (consA (cM (.int 0)) (consA (cM (.bl true)) (consA (cM .edi) (consA (frzM (lstA (consA (cM (.int 1)) (consA (cM (.int 1)) (consA (cM (.int 0)) (consA (cM (.int 0)) (nilA))))))) (nilA)))))))))))) (nilA)))) (gnM 7)) l_law_0_9
noncomputable def l_law_0_7 : SS := seqM (ifM (cmpT neS (callM m_is_span 1 (consA (fnA tupS (consA (rawM 4) nilA)) (nilA))) (callM m__law_is_span 1 (consA (varM 4) (nilA)))) (retM (cM (.bl false))) (nxM)) l_law_0_8
noncomputable def l_law_0_6 : SS := seqM (asgM (varM 6) (gsM (rawM 4) (rawM 5))) l_law_0_7
noncomputable def l_law_0_5 : SS := seqM (asgM (callM m__law_one 2 (consA (varM 2) (consA (frzM (lstA (consA (cM .non) (consA (cM (.bl true)) (consA (cM (.str (cps "1"))) (consA (op1 negS (cM (.int 1))) (consA (cM (.int 0)) (consA (cM (.int 2147483648)) (consA (op2 idxS (rawM 4) (cM (.int 0))) (consA (tupM (consA (cM (.int 1)) (nilA))) (consA (frzM (lstA (nilA))) (consA (op2 powS (cM (.int 10)) (cM (.int 40))) (nilA))))))))))))) (nilA)))) (gnM 6)) l_law_0_6
noncomputable def l_law_0_4 : SS := seqM (asgM (callM m__law_draw 2 (consA (varM 2) (consA (cM (.int 4)) (nilA)))) (gnM 5)) l_law_0_5
noncomputable def l_law_0_3 : SS := seqM (asgM (ownM true (listA (orV (callM m__law_one 2 (consA (varM 2) (consA (frzM (lstA (consA (varM 3) (consA (tupM (consA (cM (.int 3)) (consA (cM (.int 5)) (consA (cM (.int 7)) (consA (cM (.int 2)) (nilA)))))) (consA (tupM (consA (cM (.int 3)) (consA (cM (.int 3)) (consA (cM (.int 2)) (consA (cM (.int 2)) (nilA)))))) (consA (tupM (consA (cM (.int 4)) (consA (cM (.int 4)) (consA (cM .non) (consA (cM .non) (nilA)))))) (nilA))))))) (nilA)))) (tupM (consA (cM (.int 1)) (consA (cM (.int 1)) (consA (cM (.int 0)) (consA (cM (.int 0)) (nilA))))))))) (gnM 4)) l_law_0_4
noncomputable def l_law_0_2 : SS := seqM (ifM (cmpT isnB (callM m_is_span 1 (consA (varM 3) (nilA))) (cM (.bl true))) (retM (cM (.bl false))) (nxM)) l_law_0_3
noncomputable def l_law_0_1 : SS := seqM (asgM (callM m__law_span 2 (consA (varM 2) (consA (cM (.int 5)) (nilA)))) (gnM 3)) l_law_0_2
noncomputable def l_law_0 : SS := seqM (asgM (callM m__law_well 1 (consA (varM 1) (nilA))) (gnM 2)) l_law_0_1
noncomputable def b_law_0 : SS := forM (itemsM (op2 addS (slcM (rawM 0) (none) (some (cM (.int 10)))) (frzM (lstA (consA (cM (.int 0)) (nilA)))))) (gnM 1) (l_law_0)
noncomputable def b_law_1 : SS := retM (cM (.bl true))
noncomputable def m_law : SF := fnM 8 false (seqM b_law_0 (b_law_1))
end Mir.K01
end

/-! K01_D -/
section
set_option Elab.async false
set_option linter.all false
set_option maxRecDepth 100000
/-! K01_D: the readings of the defs (written by gen.py). -/
namespace Mir.K01
open PySem L2 Mir Mir.Sh
def top (i : Nat) : Stmt := PySem.Challenge.pw_codespans_k01_spans_judged.main.body.getD i (.Pass ⟨0, 0, 0, 0⟩)
abbrev s__law_well : Stmt := top 7
abbrev s__law_draw : Stmt := top 8
abbrev s__law_one : Stmt := top 9
abbrev s__law_line : Stmt := top 10
abbrev s__law_column : Stmt := top 11
abbrev s__law_span : Stmt := top 12
abbrev s_is_integer : Stmt := top 2
abbrev s_is_ordered : Stmt := top 3
abbrev s_is_span : Stmt := top 4
abbrev s__law_whole : Stmt := top 14
abbrev s__law_is_span : Stmt := top 15
abbrev s_law : Stmt := top 16
structure Txt (K : PySem.W.Frag) (mg : Str → Option Value) : Prop where
  f__law_well : FunD K mg "_law_well" "_law_well" s__law_well
  f__law_draw : FunD K mg "_law_draw" "_law_draw" s__law_draw
  f__law_one : FunD K mg "_law_one" "_law_one" s__law_one
  f__law_line : FunD K mg "_law_line" "_law_line" s__law_line
  f__law_column : FunD K mg "_law_column" "_law_column" s__law_column
  f__law_span : FunD K mg "_law_span" "_law_span" s__law_span
  f_is_integer : FunD K mg "is_integer" "is_integer" s_is_integer
  f_is_ordered : FunD K mg "is_ordered" "is_ordered" s_is_ordered
  f_is_span : FunD K mg "is_span" "is_span" s_is_span
  f__law_whole : FunD K mg "_law_whole" "_law_whole" s__law_whole
  f__law_is_span : FunD K mg "_law_is_span" "_law_is_span" s__law_is_span
  f_law : FunD K mg "law" "law" s_law
  n_NoneType : mg "NoneType" = none
  n_bool : mg "bool" = none
  n_bytes : mg "bytes" = none
  n_dict : mg "dict" = none
  n_int : mg "int" = none
  n_isinstance : mg "isinstance" = none
  n_len : mg "len" = none
  n_list : mg "list" = none
  n_max : mg "max" = none
  n_min : mg "min" = none
  n_str : mg "str" = none
  n_tuple : mg "tuple" = none
  c_MOST : ∃ t, mg "MOST" = some (.int 2147483647 t)
section
variable {P : Program} {w : World} {K : PySem.W.Frag} {mg : Str → Option Value} {base : Heap}
theorem Txt.nt (T : Txt K mg) : mg (nm "NoneType") = none ∧ mg (nm "bool") = none ∧ mg (nm "int") = none ∧ mg (nm "str") = none ∧ mg (nm "bytes") = none ∧ mg (nm "list") = none ∧ mg (nm "tuple") = none ∧ mg (nm "dict") = none := ⟨T.n_NoneType, T.n_bool, T.n_int, T.n_str, T.n_bytes, T.n_list, T.n_tuple, T.n_dict⟩
theorem sc__law_well : FnScope ["_law_cell"] ["_law_cell"] (defScope s__law_well) := ⟨rfl, rfl, rfl, by decide +kernel, rfl, by decide +kernel, by decide +kernel⟩
theorem fo__law_well {f : Addr} {fd : FuncData} (F : Fun K "_law_well" "_law_well" s__law_well f fd) (T : Txt K mg) : FnOk P w K mg base (L2.CX P w) 1 f fd ["_law_cell"] (spI K mg 1 id m__law_well) :=
  fn_ok (k := 0) F sc__law_well rfl rfl fun cdv A outer s H E hr => (rss_one (rs_ret (re_own false (rl_lst (ra_cons re_var (ra_cons re_int ra_nil))))))
theorem do__law_well (T : Txt K mg) : DefOk P w K mg base "_law_well" 1 1 m__law_well := T.f__law_well.ok ["_law_cell"] (fun f fd F => fo__law_well F T) fun _ _ _ _ _ _ us hl => match us, hl with | [_], _ => rfl
theorem sc__law_draw : FnScope ["_law_well_here", "_law_many", "_law_number", "_law_more", "_law_digit"] ["_law_well_here", "_law_many"] (defScope s__law_draw) := ⟨rfl, rfl, rfl, by decide +kernel, rfl, by decide +kernel, by decide +kernel⟩
theorem fo__law_draw {f : Addr} {fd : FuncData} (F : Fun K "_law_draw" "_law_draw" s__law_draw f fd) (T : Txt K mg) : FnOk P w K mg base (L2.CX P w) 1 f fd ["_law_well_here", "_law_many"] (spI K mg 2 id m__law_draw) :=
  fn_ok (k := 0) F sc__law_draw rfl rfl fun cdv A outer s H E hr => (rss_cons (rs_if (rt_ge (re_idx re_raw re_int) (re_pow re_int re_int)) (rss_cons (rs_asg (re_mod (re_toint (by rfl) T.n_int (re_idx re_raw re_int)) re_raw) (rg_name sc__law_draw.nd)) (rss_cons (rs_asg (re_fdiv (re_idx re_raw re_int) re_raw) (rg_sub re_raw re_int)) (rss_one (rs_ret re_var)))) rss_nil) (rss_cons (rs_asg (re_add (re_idx re_raw re_int) re_int) (rg_sub re_raw re_int)) (rss_cons (rs_asg (re_mod (re_mul (re_add (re_add (re_mod (re_toint (by rfl) T.n_int (re_idx re_raw re_int)) re_int) (re_mul re_int (re_idx re_raw re_int))) re_int) re_int) re_int) (rg_name sc__law_draw.nd)) (rss_cons (rs_asg (re_mod (re_fdiv (re_idx re_raw re_int) re_int) re_int) (rg_name sc__law_draw.nd)) (rss_cons (rs_asg (re_mod (re_toint (by rfl) T.n_int (re_mul re_raw (re_add (re_add (re_fdiv re_raw re_int) re_int) re_raw))) re_int) (rg_name sc__law_draw.nd)) (rss_one (rs_ret (re_mod (re_toint (by rfl) T.n_int (re_fdiv (re_mod (re_toint (by rfl) T.n_int (re_mul re_raw (re_add (re_fdiv re_raw re_int) re_int))) re_int) re_int)) re_raw))))))))
theorem do__law_draw (T : Txt K mg) : DefOk P w K mg base "_law_draw" 2 1 m__law_draw := T.f__law_draw.ok ["_law_well_here", "_law_many"] (fun f fd F => fo__law_draw F T) fun _ _ _ _ _ _ us hl => match us, hl with | [_, _], _ => rfl
theorem sc__law_one : FnScope ["_law_well_here", "_law_some"] ["_law_well_here", "_law_some"] (defScope s__law_one) := ⟨rfl, rfl, rfl, by decide +kernel, rfl, by decide +kernel, by decide +kernel⟩
theorem fo__law_one {f : Addr} {fd : FuncData} (F : Fun K "_law_one" "_law_one" s__law_one f fd) (T : Txt K mg) : FnOk P w K mg base (L2.CX P w) 2 f fd ["_law_well_here", "_law_some"] (spI K mg 2 id m__law_one) :=
  fn_ok (k := 1) F sc__law_one rfl rfl fun cdv A outer s H E hr => (rss_one (rs_ret (re_idx re_raw (re_callD (do__law_draw T) (hr.mono (by decide)) (by rfl) (ra_cons re_var (ra_cons (re_len (by rfl) T.n_len re_raw) ra_nil))))))
theorem do__law_one (T : Txt K mg) : DefOk P w K mg base "_law_one" 2 2 m__law_one := T.f__law_one.ok ["_law_well_here", "_law_some"] (fun f fd F => fo__law_one F T) fun _ _ _ _ _ _ us hl => match us, hl with | [_, _], _ => rfl
theorem sc__law_line : FnScope ["_law_well_here", "_law_near", "_law_way"] ["_law_well_here", "_law_near"] (defScope s__law_line) := ⟨rfl, rfl, rfl, by decide +kernel, rfl, by decide +kernel, by decide +kernel⟩
theorem fo__law_line {f : Addr} {fd : FuncData} (F : Fun K "_law_line" "_law_line" s__law_line f fd) (T : Txt K mg) : FnOk P w K mg base (L2.CX P w) 3 f fd ["_law_well_here", "_law_near"] (spI K mg 2 id m__law_line) :=
  fn_ok (k := 2) F sc__law_line rfl rfl fun cdv A outer s H E hr => (rss_cons (rs_asg (re_callD (do__law_draw T) (hr.mono (by decide)) (by rfl) (ra_cons re_var (ra_cons re_int ra_nil))) (rg_name sc__law_line.nd)) (rss_cons (rs_if (rt_lt re_raw re_int) (rss_one (rs_ret (re_min2 (by rfl) T.n_min re_int (re_max2 (by rfl) T.n_max re_int (re_sub (re_sub (re_add re_raw re_raw) re_int) (re_mul re_int (re_callD (do__law_draw T) (hr.mono (by decide)) (by rfl) (ra_cons re_var (ra_cons re_int ra_nil))))))))) rss_nil) (rss_one (rs_ret (re_callD (do__law_one T) (hr.mono (by decide)) (by rfl) (ra_cons re_var (ra_cons (re_frz (rl_lst (ra_cons re_int (ra_cons re_int (ra_cons (re_add re_int (re_callD (do__law_draw T) (hr.mono (by decide)) (by rfl) (ra_cons re_var (ra_cons re_int ra_nil)))) (ra_cons (re_add re_int (re_callD (do__law_draw T) (hr.mono (by decide)) (by rfl) (ra_cons re_var (ra_cons re_int ra_nil)))) ra_nil)))))) ra_nil)))))))
theorem do__law_line (T : Txt K mg) : DefOk P w K mg base "_law_line" 2 3 m__law_line := T.f__law_line.ok ["_law_well_here", "_law_near"] (fun f fd F => fo__law_line F T) fun _ _ _ _ _ _ us hl => match us, hl with | [_, _], _ => rfl
theorem sc__law_column : FnScope ["_law_well_here", "_law_some"] ["_law_well_here"] (defScope s__law_column) := ⟨rfl, rfl, rfl, by decide +kernel, rfl, by decide +kernel, by decide +kernel⟩
theorem fo__law_column {f : Addr} {fd : FuncData} (F : Fun K "_law_column" "_law_column" s__law_column f fd) (T : Txt K mg) : FnOk P w K mg base (L2.CX P w) 3 f fd ["_law_well_here"] (spI K mg 1 id m__law_column) :=
  fn_ok (k := 2) F sc__law_column rfl rfl fun cdv A outer s H E hr => (rss_cons (rs_asg (re_frz (rl_lst (ra_cons (re_callD (do__law_draw T) (hr.mono (by decide)) (by rfl) (ra_cons re_var (ra_cons re_int ra_nil))) (ra_cons (re_callD (do__law_draw T) (hr.mono (by decide)) (by rfl) (ra_cons re_var (ra_cons re_int ra_nil))) (ra_cons (re_callD (do__law_draw T) (hr.mono (by decide)) (by rfl) (ra_cons re_var (ra_cons re_int ra_nil))) ra_nil))))) (rg_name sc__law_column.nd)) (rss_one (rs_ret (re_callD (do__law_one T) (hr.mono (by decide)) (by rfl) (ra_cons re_var (ra_cons (re_add re_raw (re_frz (rl_lst (ra_cons (re_sub re_int (re_callD (do__law_draw T) (hr.mono (by decide)) (by rfl) (ra_cons re_var (ra_cons re_int ra_nil)))) ra_nil)))) ra_nil))))))
theorem do__law_column (T : Txt K mg) : DefOk P w K mg base "_law_column" 1 3 m__law_column := T.f__law_column.ok ["_law_well_here"] (fun f fd F => fo__law_column F T) fun _ _ _ _ _ _ us hl => match us, hl with | [_], _ => rfl
theorem sc__law_span : FnScope ["_law_well_here", "_law_near", "_law_way", "_law_line_here", "_law_column_here", "_law_wide", "_law_end_line"] ["_law_well_here", "_law_near"] (defScope s__law_span) := ⟨rfl, rfl, rfl, by decide +kernel, rfl, by decide +kernel, by decide +kernel⟩
theorem fo__law_span {f : Addr} {fd : FuncData} (F : Fun K "_law_span" "_law_span" s__law_span f fd) (T : Txt K mg) : FnOk P w K mg base (L2.CX P w) 4 f fd ["_law_well_here", "_law_near"] (spI K mg 2 id m__law_span) :=
  fn_ok (k := 3) F sc__law_span rfl rfl fun cdv A outer s H E hr => (rss_cons (rs_asg (re_callD (do__law_draw T) (hr.mono (by decide)) (by rfl) (ra_cons re_var (ra_cons re_int ra_nil))) (rg_name sc__law_span.nd)) (rss_cons (rs_if (rt_eq re_raw re_int) (rss_one (rs_ret re_non)) rss_nil) (rss_cons (rs_asg (re_callD (do__law_line T) (hr.mono (by decide)) (by rfl) (ra_cons re_var (ra_cons re_var ra_nil))) (rg_name sc__law_span.nd)) (rss_cons (rs_if (rt_eq re_raw re_int) (rss_one (rs_ret (re_tup (ra_cons re_var (ra_cons re_var (ra_cons re_non (ra_cons re_non ra_nil))))))) rss_nil) (rss_cons (rs_asg (re_callD (do__law_column T) (hr.mono (by decide)) (by rfl) (ra_cons re_var ra_nil)) (rg_name sc__law_span.nd)) (rss_cons (rs_asg (re_callD (do__law_draw T) (hr.mono (by decide)) (by rfl) (ra_cons re_var (ra_cons (re_callD (do__law_one T) (hr.mono (by decide)) (by rfl) (ra_cons re_var (ra_cons (re_frz (rl_lst (ra_cons re_int (ra_cons re_int (ra_cons re_int (ra_cons (re_pow re_int re_int) ra_nil)))))) ra_nil))) ra_nil))) (rg_name sc__law_span.nd)) (rss_cons (rs_asg re_var (rg_name sc__law_span.nd)) (rss_cons (rs_if (rt_gt re_raw re_int) (rss_one (rs_asg (re_min2 (by rfl) T.n_min re_int (re_add re_raw (re_callD (do__law_one T) (hr.mono (by decide)) (by rfl) (ra_cons re_var (ra_cons (re_frz (rl_lst (ra_cons re_int (ra_cons (re_callD (do__law_draw T) (hr.mono (by decide)) (by rfl) (ra_cons re_var (ra_cons re_int ra_nil))) (ra_cons (re_callD (do__law_draw T) (hr.mono (by decide)) (by rfl) (ra_cons re_var (ra_cons (re_pow re_int re_int) ra_nil))) ra_nil))))) ra_nil))))) (rg_name sc__law_span.nd))) rss_nil) (rss_cons (rs_if (rt_gt re_raw re_raw) (rss_one (rs_ret (re_tup (ra_cons re_var (ra_cons re_var (ra_cons re_var (ra_cons (re_callD (do__law_column T) (hr.mono (by decide)) (by rfl) (ra_cons re_var ra_nil)) ra_nil))))))) rss_nil) (rss_one (rs_ret (re_tup (ra_cons re_var (ra_cons re_var (ra_cons re_var (ra_cons (re_min2 (by rfl) T.n_min re_int (re_add re_raw re_raw)) ra_nil))))))))))))))))
theorem do__law_span (T : Txt K mg) : DefOk P w K mg base "_law_span" 2 4 m__law_span := T.f__law_span.ok ["_law_well_here", "_law_near"] (fun f fd F => fo__law_span F T) fun _ _ _ _ _ _ us hl => match us, hl with | [_, _], _ => rfl
theorem sc_is_integer : FnScope ["thing", "low", "high"] ["thing", "low", "high"] (defScope s_is_integer) := ⟨rfl, rfl, rfl, by decide +kernel, rfl, by decide +kernel, by decide +kernel⟩
theorem fo_is_integer {f : Addr} {fd : FuncData} (F : Fun K "is_integer" "is_integer" s_is_integer f fd) (T : Txt K mg) : FnOk P w K mg base (L2.CX P w) 1 f fd ["thing", "low", "high"] (spI K mg 3 id m_is_integer) :=
  fn_ok (k := 0) F sc_is_integer rfl rfl fun cdv A outer s H E hr => (rss_cons (rs_if (rt_w (rw_or (rt_not (rt_tst (re_isi_int (by rfl) T.n_isinstance T.nt (by rfl) T.n_int re_raw))) (rw_or1 (rt_tst (re_isi_bool (by rfl) T.n_isinstance T.nt (by rfl) T.n_bool re_raw))))) (rss_one (rs_ret re_bl)) rss_nil) (rss_one (rs_ret (re_andV (re_orV (re_is re_raw re_non) (re_one (re_ge re_raw re_raw))) (re_one (re_orV (re_is re_raw re_non) (re_one (re_le re_raw re_raw))))))))
theorem do_is_integer (T : Txt K mg) : DefOk P w K mg base "is_integer" 3 1 m_is_integer := T.f_is_integer.ok ["thing", "low", "high"] (fun f fd F => fo_is_integer F T) fun _ _ _ _ _ _ us hl => match us, hl with | [_, _, _], _ => rfl
theorem sc_is_ordered : FnScope ["line", "end_line", "column", "end_column"] ["line", "end_line", "column", "end_column"] (defScope s_is_ordered) := ⟨rfl, rfl, rfl, by decide +kernel, rfl, by decide +kernel, by decide +kernel⟩
theorem fo_is_ordered {f : Addr} {fd : FuncData} (F : Fun K "is_ordered" "is_ordered" s_is_ordered f fd) (T : Txt K mg) : FnOk P w K mg base (L2.CX P w) 2 f fd ["line", "end_line", "column", "end_column"] (spI K mg 4 id m_is_ordered) :=
  fn_ok (k := 1) F sc_is_ordered rfl rfl fun cdv A outer s H E hr => (rss_cons (rs_if (rt_w (rw_and (rt_is re_raw re_non) (rw_and1 (rt_is re_raw re_non)))) (rss_one (rs_ret (re_eq re_raw re_raw))) rss_nil) (rss_cons (rs_if (rt_w (rw_or (rt_not (rt_tst (re_callD (do_is_integer T) (hr.mono (by decide)) (by rfl) (ra_cons re_var (ra_cons re_int (ra_cons (re_globI (by rfl) T.c_MOST.choose_spec) ra_nil)))))) (rw_or1 (rt_not (rt_tst (re_callD (do_is_integer T) (hr.mono (by decide)) (by rfl) (ra_cons re_var (ra_cons re_int (ra_cons (re_globI (by rfl) T.c_MOST.choose_spec) ra_nil))))))))) (rss_one (rs_ret re_bl)) rss_nil) (rss_one (rs_ret (re_orV (re_lt re_raw re_raw) (re_one (re_le re_raw re_raw)))))))
theorem do_is_ordered (T : Txt K mg) : DefOk P w K mg base "is_ordered" 4 2 m_is_ordered := T.f_is_ordered.ok ["line", "end_line", "column", "end_column"] (fun f fd F => fo_is_ordered F T) fun _ _ _ _ _ _ us hl => match us, hl with | [_, _, _, _], _ => rfl
theorem sc_is_span : FnScope ["thing", "line", "end_line", "column", "end_column"] ["thing"] (defScope s_is_span) := ⟨rfl, rfl, rfl, by decide +kernel, rfl, by decide +kernel, by decide +kernel⟩
theorem fo_is_span {f : Addr} {fd : FuncData} (F : Fun K "is_span" "is_span" s_is_span f fd) (T : Txt K mg) : FnOk P w K mg base (L2.CX P w) 3 f fd ["thing"] (spI K mg 1 id m_is_span) :=
  fn_ok (k := 2) F sc_is_span rfl rfl fun cdv A outer s H E hr => (rss_cons (rs_if (rt_is re_raw re_non) (rss_one (rs_ret re_bl)) rss_nil) (rss_cons (rs_if (rt_w (rw_or (rt_not (rt_tst (re_isi_tuple (by rfl) T.n_isinstance T.nt (by rfl) T.n_tuple re_raw))) (rw_or1 (rt_ne (re_len (by rfl) T.n_len re_raw) re_int)))) (rss_one (rs_ret re_bl)) rss_nil) (rss_cons (rs_asg re_var (rg_row (rgs_cons (rg_name sc_is_span.nd) (rgs_cons (rg_name sc_is_span.nd) (rgs_cons (rg_name sc_is_span.nd) (rgs_cons (rg_name sc_is_span.nd) rgs_nil)))))) (rss_cons (rs_if (rt_w (rw_or (rt_not (rt_tst (re_callD (do_is_integer T) (hr.mono (by decide)) (by rfl) (ra_cons re_var (ra_cons re_int (ra_cons (re_globI (by rfl) T.c_MOST.choose_spec) ra_nil)))))) (rw_or1 (rt_not (rt_tst (re_callD (do_is_integer T) (hr.mono (by decide)) (by rfl) (ra_cons re_var (ra_cons re_var (ra_cons (re_globI (by rfl) T.c_MOST.choose_spec) ra_nil))))))))) (rss_one (rs_ret re_bl)) rss_nil) (rss_one (rs_ret (re_callD (do_is_ordered T) (hr.mono (by decide)) (by rfl) (ra_cons re_var (ra_cons re_var (ra_cons re_var (ra_cons re_var ra_nil)))))))))))
theorem do_is_span (T : Txt K mg) : DefOk P w K mg base "is_span" 1 3 m_is_span := T.f_is_span.ok ["thing"] (fun f fd F => fo_is_span F T) fun _ _ _ _ _ _ us hl => match us, hl with | [_], _ => rfl
theorem sc__law_whole : FnScope ["_law_thing", "_law_low"] ["_law_thing", "_law_low"] (defScope s__law_whole) := ⟨rfl, rfl, rfl, by decide +kernel, rfl, by decide +kernel, by decide +kernel⟩
theorem fo__law_whole {f : Addr} {fd : FuncData} (F : Fun K "_law_whole" "_law_whole" s__law_whole f fd) (T : Txt K mg) : FnOk P w K mg base (L2.CX P w) 1 f fd ["_law_thing", "_law_low"] (spI K mg 2 id m__law_whole) :=
  fn_ok (k := 0) F sc__law_whole rfl rfl fun cdv A outer s H E hr => (rss_one (rs_ret (re_andV (re_isi_int (by rfl) T.n_isinstance T.nt (by rfl) T.n_int re_raw) (re_andV (re_notV (re_isi_bool (by rfl) T.n_isinstance T.nt (by rfl) T.n_bool re_raw)) (re_one (re_ch ch_le ch_le re_raw re_raw re_int))))))
theorem do__law_whole (T : Txt K mg) : DefOk P w K mg base "_law_whole" 2 1 m__law_whole := T.f__law_whole.ok ["_law_thing", "_law_low"] (fun f fd F => fo__law_whole F T) fun _ _ _ _ _ _ us hl => match us, hl with | [_, _], _ => rfl
theorem sc__law_is_span : FnScope ["_law_parts", "_law_line_here", "_law_end_line", "_law_column_here", "_law_end_column"] ["_law_parts"] (defScope s__law_is_span) := ⟨rfl, rfl, rfl, by decide +kernel, rfl, by decide +kernel, by decide +kernel⟩
theorem fo__law_is_span {f : Addr} {fd : FuncData} (F : Fun K "_law_is_span" "_law_is_span" s__law_is_span f fd) (T : Txt K mg) : FnOk P w K mg base (L2.CX P w) 2 f fd ["_law_parts"] (spI K mg 1 id m__law_is_span) :=
  fn_ok (k := 1) F sc__law_is_span rfl rfl fun cdv A outer s H E hr => (rss_cons (rs_asg re_var (rg_row (rgs_cons (rg_name sc__law_is_span.nd) (rgs_cons (rg_name sc__law_is_span.nd) (rgs_cons (rg_name sc__law_is_span.nd) (rgs_cons (rg_name sc__law_is_span.nd) rgs_nil)))))) (rss_cons (rs_if (rt_w (rw_or (rt_not (rt_tst (re_callD (do__law_whole T) (hr.mono (by decide)) (by rfl) (ra_cons re_var (ra_cons re_int ra_nil))))) (rw_or (rt_not (rt_tst (re_callD (do__law_whole T) (hr.mono (by decide)) (by rfl) (ra_cons re_var (ra_cons re_int ra_nil))))) (rw_or1 (rt_lt re_raw re_raw))))) (rss_one (rs_ret re_bl)) rss_nil) (rss_cons (rs_if (rt_w (rw_and (rt_is re_raw re_non) (rw_and1 (rt_is re_raw re_non)))) (rss_one (rs_ret (re_eq re_raw re_raw))) rss_nil) (rss_cons (rs_if (rt_w (rw_or (rt_not (rt_tst (re_callD (do__law_whole T) (hr.mono (by decide)) (by rfl) (ra_cons re_var (ra_cons re_int ra_nil))))) (rw_or1 (rt_not (rt_tst (re_callD (do__law_whole T) (hr.mono (by decide)) (by rfl) (ra_cons re_var (ra_cons re_int ra_nil)))))))) (rss_one (rs_ret re_bl)) rss_nil) (rss_one (rs_ret (re_orV (re_gt re_raw re_raw) (re_one (re_le re_raw re_raw)))))))))
theorem do__law_is_span (T : Txt K mg) : DefOk P w K mg base "_law_is_span" 1 2 m__law_is_span := T.f__law_is_span.ok ["_law_parts"] (fun f fd F => fo__law_is_span F T) fun _ _ _ _ _ _ us hl => match us, hl with | [_], _ => rfl
theorem sc_law : FnScope ["_law_script", "_law_cell", "_law_well_here", "_law_span_here", "_law_parts", "_law_place", "_law_odd", "_law_strange"] ["_law_script"] (defScope s_law) := ⟨rfl, rfl, rfl, by decide +kernel, rfl, by decide +kernel, by decide +kernel⟩
theorem fo_law {f : Addr} {fd : FuncData} (F : Fun K "law" "law" s_law f fd) (T : Txt K mg) : FnOk P w K mg base (L2.CX P w) 5 f fd ["_law_script"] (spI K mg 1 id m_law) :=
  fn_ok (k := 4) F sc_law rfl rfl fun cdv A outer s H E hr => (rss_cons (rs_for (ri_seq (re_add (re_slice re_raw ro_none (ro_some re_int)) (re_frz (rl_lst (ra_cons re_int ra_nil))))) (rg_name sc_law.nd) (rss_cons (rs_asg (re_callD (do__law_well T) (hr.mono (by decide)) (by rfl) (ra_cons re_var ra_nil)) (rg_name sc_law.nd)) (rss_cons (rs_asg (re_callD (do__law_span T) (hr.mono (by decide)) (by rfl) (ra_cons re_var (ra_cons re_int ra_nil))) (rg_name sc_law.nd)) (rss_cons (rs_if (rt_isnB (re_callD (do_is_span T) (hr.mono (by decide)) (by rfl) (ra_cons re_var ra_nil)) re_bl) (rss_one (rs_ret re_bl)) rss_nil) (rss_cons (rs_asg (re_own true (rl_list (by rfl) T.n_list (re_orV (re_callD (do__law_one T) (hr.mono (by decide)) (by rfl) (ra_cons re_var (ra_cons (re_frz (rl_lst (ra_cons re_var (ra_cons (re_tup (ra_cons re_int (ra_cons re_int (ra_cons re_int (ra_cons re_int ra_nil))))) (ra_cons (re_tup (ra_cons re_int (ra_cons re_int (ra_cons re_int (ra_cons re_int ra_nil))))) (ra_cons (re_tup (ra_cons re_int (ra_cons re_int (ra_cons re_non (ra_cons re_non ra_nil))))) ra_nil)))))) ra_nil))) (re_one (re_tup (ra_cons re_int (ra_cons re_int (ra_cons re_int (ra_cons re_int ra_nil))))))))) (rg_name sc_law.nd)) (rss_cons (rs_asg (re_callD (do__law_draw T) (hr.mono (by decide)) (by rfl) (ra_cons re_var (ra_cons re_int ra_nil))) (rg_name sc_law.nd)) (rss_cons (rs_asg (re_callD (do__law_one T) (hr.mono (by decide)) (by rfl) (ra_cons re_var (ra_cons (re_frz (rl_lst (ra_cons re_non (ra_cons re_bl (ra_cons (re_str (s := "1")) (ra_cons (re_neg re_int) (ra_cons re_int (ra_cons re_int (ra_cons (re_idx re_raw re_int) (ra_cons (re_tup (ra_cons re_int ra_nil)) (ra_cons (re_frz (rl_lst ra_nil)) (ra_cons (re_pow re_int re_int) ra_nil)))))))))))) ra_nil))) (rg_name sc_law.nd)) (rss_cons (rs_asg re_var (rg_sub re_raw re_raw)) (rss_cons (rs_if (rt_ne (re_callD (do_is_span T) (hr.mono (by decide)) (by rfl) (ra_cons (re_tuple (by rfl) T.n_tuple re_raw) ra_nil)) (re_callD (do__law_is_span T) (hr.mono (by decide)) (by rfl) (ra_cons re_var ra_nil))) (rss_one (rs_ret re_bl)) rss_nil) (rss_cons (rs_asg (re_callD (do__law_one T) (hr.mono (by decide)) (by rfl) (ra_cons re_var (ra_cons (re_frz (rl_lst (ra_cons re_var (ra_cons (re_tup ra_nil) (ra_cons (re_tup (ra_cons re_int (ra_cons re_int ra_nil))) (ra_cons (re_tup (ra_cons re_int (ra_cons re_int (ra_cons re_int (ra_cons re_int (ra_cons re_int ra_nil)))))) (ra_cons (re_str (s := "span")) (ra_cons re_int (ra_cons re_bl (ra_cons re_edi (ra_cons (re_frz (rl_lst (ra_cons re_int (ra_cons re_int (ra_cons re_int (ra_cons re_int ra_nil)))))) ra_nil))))))))))) ra_nil))) (rg_name sc_law.nd)) (rss_one (rs_if (rt_isnB (re_callD (do_is_span T) (hr.mono (by decide)) (by rfl) (ra_cons re_var ra_nil)) re_bl) (rss_one (rs_ret re_bl)) rss_nil)))))))))))) (rss_one (rs_ret re_bl)))
theorem do_law (T : Txt K mg) : DefOk P w K mg base "law" 1 5 m_law := T.f_law.ok ["_law_script"] (fun f fd F => fo_law F T) fun _ _ _ _ _ _ us hl => match us, hl with | [_], _ => rfl
end
/-- what the top has written -/
theorem all_mk {P : Program} {w : World} {K : PySem.W.Frag} {h : Heap} {mg : Str → Option Value} {fa : Addr} (X : K.In h) (G : h.Ns mainGlobals mg) (hfa : mg "law" = some (.ref fa))
    {f0 : Addr} {oc0 kV0 dc0 pm0 cd0 ct0 : Value} {od0 an0 : Option Addr} {sl0 : Array (Option Value)}
    (a0 : PySem.W.nsIn K mainGlobals "_law_well" = some (some (.ref f0))) (l0 : K.lookup f0 = some ⟨oc0, od0, .func (PySem.W.fnOf "_law_well" "_law_well" (defArgs s__law_well) (defBody s__law_well) (defScope s__law_well) .none kV0 dc0 pm0 an0 cd0 ct0), sl0⟩) (c0 : PySem.W.codeIn K cd0 "_law_well" = true) (k0 : PySem.W.keepIn K (.ref f0) = true)
    {f1 : Addr} {oc1 kV1 dc1 pm1 cd1 ct1 : Value} {od1 an1 : Option Addr} {sl1 : Array (Option Value)}
    (a1 : PySem.W.nsIn K mainGlobals "_law_draw" = some (some (.ref f1))) (l1 : K.lookup f1 = some ⟨oc1, od1, .func (PySem.W.fnOf "_law_draw" "_law_draw" (defArgs s__law_draw) (defBody s__law_draw) (defScope s__law_draw) .none kV1 dc1 pm1 an1 cd1 ct1), sl1⟩) (c1 : PySem.W.codeIn K cd1 "_law_draw" = true) (k1 : PySem.W.keepIn K (.ref f1) = true)
    {f2 : Addr} {oc2 kV2 dc2 pm2 cd2 ct2 : Value} {od2 an2 : Option Addr} {sl2 : Array (Option Value)}
    (a2 : PySem.W.nsIn K mainGlobals "_law_one" = some (some (.ref f2))) (l2 : K.lookup f2 = some ⟨oc2, od2, .func (PySem.W.fnOf "_law_one" "_law_one" (defArgs s__law_one) (defBody s__law_one) (defScope s__law_one) .none kV2 dc2 pm2 an2 cd2 ct2), sl2⟩) (c2 : PySem.W.codeIn K cd2 "_law_one" = true) (k2 : PySem.W.keepIn K (.ref f2) = true)
    {f3 : Addr} {oc3 kV3 dc3 pm3 cd3 ct3 : Value} {od3 an3 : Option Addr} {sl3 : Array (Option Value)}
    (a3 : PySem.W.nsIn K mainGlobals "_law_line" = some (some (.ref f3))) (l3 : K.lookup f3 = some ⟨oc3, od3, .func (PySem.W.fnOf "_law_line" "_law_line" (defArgs s__law_line) (defBody s__law_line) (defScope s__law_line) .none kV3 dc3 pm3 an3 cd3 ct3), sl3⟩) (c3 : PySem.W.codeIn K cd3 "_law_line" = true) (k3 : PySem.W.keepIn K (.ref f3) = true)
    {f4 : Addr} {oc4 kV4 dc4 pm4 cd4 ct4 : Value} {od4 an4 : Option Addr} {sl4 : Array (Option Value)}
    (a4 : PySem.W.nsIn K mainGlobals "_law_column" = some (some (.ref f4))) (l4 : K.lookup f4 = some ⟨oc4, od4, .func (PySem.W.fnOf "_law_column" "_law_column" (defArgs s__law_column) (defBody s__law_column) (defScope s__law_column) .none kV4 dc4 pm4 an4 cd4 ct4), sl4⟩) (c4 : PySem.W.codeIn K cd4 "_law_column" = true) (k4 : PySem.W.keepIn K (.ref f4) = true)
    {f5 : Addr} {oc5 kV5 dc5 pm5 cd5 ct5 : Value} {od5 an5 : Option Addr} {sl5 : Array (Option Value)}
    (a5 : PySem.W.nsIn K mainGlobals "_law_span" = some (some (.ref f5))) (l5 : K.lookup f5 = some ⟨oc5, od5, .func (PySem.W.fnOf "_law_span" "_law_span" (defArgs s__law_span) (defBody s__law_span) (defScope s__law_span) .none kV5 dc5 pm5 an5 cd5 ct5), sl5⟩) (c5 : PySem.W.codeIn K cd5 "_law_span" = true) (k5 : PySem.W.keepIn K (.ref f5) = true)
    {f6 : Addr} {oc6 kV6 dc6 pm6 cd6 ct6 : Value} {od6 an6 : Option Addr} {sl6 : Array (Option Value)}
    (a6 : PySem.W.nsIn K mainGlobals "is_integer" = some (some (.ref f6))) (l6 : K.lookup f6 = some ⟨oc6, od6, .func (PySem.W.fnOf "is_integer" "is_integer" (defArgs s_is_integer) (defBody s_is_integer) (defScope s_is_integer) .none kV6 dc6 pm6 an6 cd6 ct6), sl6⟩) (c6 : PySem.W.codeIn K cd6 "is_integer" = true) (k6 : PySem.W.keepIn K (.ref f6) = true)
    {f7 : Addr} {oc7 kV7 dc7 pm7 cd7 ct7 : Value} {od7 an7 : Option Addr} {sl7 : Array (Option Value)}
    (a7 : PySem.W.nsIn K mainGlobals "is_ordered" = some (some (.ref f7))) (l7 : K.lookup f7 = some ⟨oc7, od7, .func (PySem.W.fnOf "is_ordered" "is_ordered" (defArgs s_is_ordered) (defBody s_is_ordered) (defScope s_is_ordered) .none kV7 dc7 pm7 an7 cd7 ct7), sl7⟩) (c7 : PySem.W.codeIn K cd7 "is_ordered" = true) (k7 : PySem.W.keepIn K (.ref f7) = true)
    {f8 : Addr} {oc8 kV8 dc8 pm8 cd8 ct8 : Value} {od8 an8 : Option Addr} {sl8 : Array (Option Value)}
    (a8 : PySem.W.nsIn K mainGlobals "is_span" = some (some (.ref f8))) (l8 : K.lookup f8 = some ⟨oc8, od8, .func (PySem.W.fnOf "is_span" "is_span" (defArgs s_is_span) (defBody s_is_span) (defScope s_is_span) .none kV8 dc8 pm8 an8 cd8 ct8), sl8⟩) (c8 : PySem.W.codeIn K cd8 "is_span" = true) (k8 : PySem.W.keepIn K (.ref f8) = true)
    {f9 : Addr} {oc9 kV9 dc9 pm9 cd9 ct9 : Value} {od9 an9 : Option Addr} {sl9 : Array (Option Value)}
    (a9 : PySem.W.nsIn K mainGlobals "_law_whole" = some (some (.ref f9))) (l9 : K.lookup f9 = some ⟨oc9, od9, .func (PySem.W.fnOf "_law_whole" "_law_whole" (defArgs s__law_whole) (defBody s__law_whole) (defScope s__law_whole) .none kV9 dc9 pm9 an9 cd9 ct9), sl9⟩) (c9 : PySem.W.codeIn K cd9 "_law_whole" = true) (k9 : PySem.W.keepIn K (.ref f9) = true)
    {f10 : Addr} {oc10 kV10 dc10 pm10 cd10 ct10 : Value} {od10 an10 : Option Addr} {sl10 : Array (Option Value)}
    (a10 : PySem.W.nsIn K mainGlobals "_law_is_span" = some (some (.ref f10))) (l10 : K.lookup f10 = some ⟨oc10, od10, .func (PySem.W.fnOf "_law_is_span" "_law_is_span" (defArgs s__law_is_span) (defBody s__law_is_span) (defScope s__law_is_span) .none kV10 dc10 pm10 an10 cd10 ct10), sl10⟩) (c10 : PySem.W.codeIn K cd10 "_law_is_span" = true) (k10 : PySem.W.keepIn K (.ref f10) = true)
    {f11 : Addr} {oc11 kV11 dc11 pm11 cd11 ct11 : Value} {od11 an11 : Option Addr} {sl11 : Array (Option Value)}
    (a11 : PySem.W.nsIn K mainGlobals "law" = some (some (.ref f11))) (l11 : K.lookup f11 = some ⟨oc11, od11, .func (PySem.W.fnOf "law" "law" (defArgs s_law) (defBody s_law) (defScope s_law) .none kV11 dc11 pm11 an11 cd11 ct11), sl11⟩) (c11 : PySem.W.codeIn K cd11 "law" = true) (k11 : PySem.W.keepIn K (.ref f11) = true)
    (z_NoneType : PySem.W.nsIn K mainGlobals "NoneType" = some none)
    (z_bool : PySem.W.nsIn K mainGlobals "bool" = some none)
    (z_bytes : PySem.W.nsIn K mainGlobals "bytes" = some none)
    (z_dict : PySem.W.nsIn K mainGlobals "dict" = some none)
    (z_int : PySem.W.nsIn K mainGlobals "int" = some none)
    (z_isinstance : PySem.W.nsIn K mainGlobals "isinstance" = some none)
    (z_len : PySem.W.nsIn K mainGlobals "len" = some none)
    (z_list : PySem.W.nsIn K mainGlobals "list" = some none)
    (z_max : PySem.W.nsIn K mainGlobals "max" = some none)
    (z_min : PySem.W.nsIn K mainGlobals "min" = some none)
    (z_str : PySem.W.nsIn K mainGlobals "str" = some none)
    (z_tuple : PySem.W.nsIn K mainGlobals "tuple" = some none)
    {t_MOST : Tok} (y_MOST : PySem.W.nsIn K mainGlobals "MOST" = some (some (.int 2147483647 t_MOST))) :
    ∃ fd : FuncData, (∀ (s : Shared) (v : Value), BindsTo s fd ⟨[v], []⟩ [("_law_script", v)]) ∧ ∀ base : Heap, K.In base → base.Ns mainGlobals mg → FnOk P w K mg base (L2.CX P w) 5 fa fd ["_law_script"] (spI K mg 1 id m_law) := by
  have e := hfa.symm.trans (PySem.W.mg_of X G a11)
  cases e
  have T : Txt K mg := { f__law_well := funD_mk X G a0 l0 c0 k0, f__law_draw := funD_mk X G a1 l1 c1 k1, f__law_one := funD_mk X G a2 l2 c2 k2, f__law_line := funD_mk X G a3 l3 c3 k3, f__law_column := funD_mk X G a4 l4 c4 k4, f__law_span := funD_mk X G a5 l5 c5 k5, f_is_integer := funD_mk X G a6 l6 c6 k6, f_is_ordered := funD_mk X G a7 l7 c7 k7, f_is_span := funD_mk X G a8 l8 c8 k8, f__law_whole := funD_mk X G a9 l9 c9 k9, f__law_is_span := funD_mk X G a10 l10 c10 k10, f_law := funD_mk X G a11 l11 c11 k11, n_NoneType := PySem.W.mg_none_of X G z_NoneType, n_bool := PySem.W.mg_none_of X G z_bool, n_bytes := PySem.W.mg_none_of X G z_bytes, n_dict := PySem.W.mg_none_of X G z_dict, n_int := PySem.W.mg_none_of X G z_int, n_isinstance := PySem.W.mg_none_of X G z_isinstance, n_len := PySem.W.mg_none_of X G z_len, n_list := PySem.W.mg_none_of X G z_list, n_max := PySem.W.mg_none_of X G z_max, n_min := PySem.W.mg_none_of X G z_min, n_str := PySem.W.mg_none_of X G z_str, n_tuple := PySem.W.mg_none_of X G z_tuple, c_MOST := ⟨_, PySem.W.mg_of X G y_MOST⟩ }
  exact ⟨PySem.W.fnOf "law" "law" (defArgs s_law) (defBody s_law) (defScope s_law) .none kV11 dc11 pm11 an11 cd11 ct11, fun s v => .of_eq rfl, fun base _ _ => fo_law (fun_mk (st := s_law) l11 c11 k11) T⟩
end Mir.K01
end

/-! MirEval -/
section
set_option linter.all false
/-! MirEval: meanings worked out by simp: one lemma a word, only where all arguments are there. -/
namespace Mir



/-- stands behind a bind, so that simp leaves what follows alone -/
structure Tag {α : Type} (k : α) : Type where
def R.bnd {α β : Type} (r : R α) (k : α → Env → Sto → R β) (_ : Tag k := ⟨⟩) : R β := r.bind k
@[simp] theorem R.bnd_ok {α β : Type} (a : α) (e : Env) (S : Sto) (k : α → Env → Sto → R β) (t : Tag k) : (R.ok a e S).bnd k t = k a e S := id rfl
@[simp] theorem R.bnd_exc {α β : Type} (c : String) (fs : List (String × D)) (e : Env) (S : Sto) (k : α → Env → Sto → R β) (t : Tag k) : (R.exc c fs e S).bnd k t = .exc c fs e S := id rfl
@[simp] theorem R.bnd_stuck {α β : Type} (k : α → Env → Sto → R β) (t : Tag k) : (R.stuck : R α).bnd k t = .stuck := id rfl

def rawR (o : Option (Option D)) (e : Env) (S : Sto) : R D := match o with
  | some (some d) => .ok d e S
  | _ => .stuck
@[simp] theorem rawR_some (d : D) (e : Env) (S : Sto) : rawR (some (some d)) e S = .ok d e S := id rfl
@[simp] theorem rawR_nn (e : Env) (S : Sto) : rawR (some none) e S = .stuck := id rfl
@[simp] theorem rawR_n (e : Env) (S : Sto) : rawR none e S = .stuck := id rfl
@[simp] theorem rawM_ap (i b : Nat) (e : Env) (S : Sto) : rawM i b e S = rawR e[i]? e S := by
  unfold rawM rawR
  cases e[i]? with
  | none => rfl
  | some o => cases o <;> rfl
def D.isRef : D → Bool
  | .ref _ => true
  | _ => false
@[simp] theorem isRef_non : D.isRef .non = false := id rfl
@[simp] theorem isRef_bl (k : Bool) : D.isRef (.bl k) = false := id rfl
@[simp] theorem isRef_int (k : Int) : D.isRef (.int k) = false := id rfl
@[simp] theorem isRef_str (k : List Nat) : D.isRef (.str k) = false := id rfl
@[simp] theorem isRef_byt (k : List Nat) : D.isRef (.byt k) = false := id rfl
@[simp] theorem isRef_lst (k : List D) : D.isRef (.lst k) = false := id rfl
@[simp] theorem isRef_frz (k : List D) : D.isRef (.frz k) = false := id rfl
@[simp] theorem isRef_tup (k : List D) : D.isRef (.tup k) = false := id rfl
@[simp] theorem isRef_ins (c : String) (k : List (String × D)) : D.isRef (.ins c k) = false := id rfl
@[simp] theorem isRef_exn (c : String) (k : List (String × D)) : D.isRef (.exn c k) = false := id rfl
@[simp] theorem isRef_gl (c : String) : D.isRef (.gl c) = false := id rfl
@[simp] theorem isRef_ty (c : String) : D.isRef (.ty c) = false := id rfl
@[simp] theorem isRef_edi : D.isRef .edi = false := id rfl
def varO (i j : Nat) (o : Option Ob) (e : Env) (S : Sto) : R D := match o with
  | some (.lst true xs) => .ok (.lst xs) (e.set i (some (.lst xs))) (S.set j .dead)
  | _ => .ok (.ref j) e S
@[simp] theorem varO_own (i j : Nat) (xs : List D) (e : Env) (S : Sto) : varO i j (some (.lst true xs)) e S = .ok (.lst xs) (e.set i (some (.lst xs))) (S.set j .dead) := id rfl
@[simp] theorem varO_sh (i j : Nat) (xs : List D) (e : Env) (S : Sto) : varO i j (some (.lst false xs)) e S = .ok (.ref j) e S := id rfl
@[simp] theorem varO_ins (i j : Nat) (c : String) (fs : List (String × D)) (e : Env) (S : Sto) : varO i j (some (.ins c fs)) e S = .ok (.ref j) e S := id rfl
def varR (i : Nat) (o : Option (Option D)) (e : Env) (S : Sto) : R D := match o with
  | some (some (.ref j)) => varO i j S[j]? e S
  | some (some d) => .ok d e S
  | _ => .stuck
@[simp] theorem varR_ref (i j : Nat) (e : Env) (S : Sto) : varR i (some (some (.ref j))) e S = varO i j S[j]? e S := id rfl
@[simp] theorem varR_nn (i : Nat) (e : Env) (S : Sto) : varR i (some none) e S = .stuck := id rfl
@[simp] theorem varR_n (i : Nat) (e : Env) (S : Sto) : varR i none e S = .stuck := id rfl
@[simp] theorem varR_d (i : Nat) (d : D) (e : Env) (S : Sto) (h : d.isRef = false) : varR i (some (some d)) e S = .ok d e S := by
  cases d <;> first | rfl | cases h
@[simp] theorem varR_non (i : Nat) (e : Env) (S : Sto) : varR i (some (some (.non : D))) e S = .ok (.non : D) e S := id rfl
@[simp] theorem varR_bl (k : Bool) (i : Nat) (e : Env) (S : Sto) : varR i (some (some (.bl k : D))) e S = .ok (.bl k : D) e S := id rfl
@[simp] theorem varR_int (k : Int) (i : Nat) (e : Env) (S : Sto) : varR i (some (some (.int k : D))) e S = .ok (.int k : D) e S := id rfl
@[simp] theorem varR_str (k : List Nat) (i : Nat) (e : Env) (S : Sto) : varR i (some (some (.str k : D))) e S = .ok (.str k : D) e S := id rfl
@[simp] theorem varR_byt (k : List Nat) (i : Nat) (e : Env) (S : Sto) : varR i (some (some (.byt k : D))) e S = .ok (.byt k : D) e S := id rfl
@[simp] theorem varR_lst (k : List D) (i : Nat) (e : Env) (S : Sto) : varR i (some (some (.lst k : D))) e S = .ok (.lst k : D) e S := id rfl
@[simp] theorem varR_frz (k : List D) (i : Nat) (e : Env) (S : Sto) : varR i (some (some (.frz k : D))) e S = .ok (.frz k : D) e S := id rfl
@[simp] theorem varR_tup (k : List D) (i : Nat) (e : Env) (S : Sto) : varR i (some (some (.tup k : D))) e S = .ok (.tup k : D) e S := id rfl
@[simp] theorem varR_ins (c : String) (k : List (String × D)) (i : Nat) (e : Env) (S : Sto) : varR i (some (some (.ins c k : D))) e S = .ok (.ins c k : D) e S := id rfl
@[simp] theorem varR_exn (c : String) (k : List (String × D)) (i : Nat) (e : Env) (S : Sto) : varR i (some (some (.exn c k : D))) e S = .ok (.exn c k : D) e S := id rfl
@[simp] theorem varR_gl (k : String) (i : Nat) (e : Env) (S : Sto) : varR i (some (some (.gl k : D))) e S = .ok (.gl k : D) e S := id rfl
@[simp] theorem varR_ty (k : String) (i : Nat) (e : Env) (S : Sto) : varR i (some (some (.ty k : D))) e S = .ok (.ty k : D) e S := id rfl
@[simp] theorem varR_edi (i : Nat) (e : Env) (S : Sto) : varR i (some (some (.edi : D))) e S = .ok (.edi : D) e S := id rfl
@[simp] theorem varM_ap (i b : Nat) (e : Env) (S : Sto) : varM i b e S = varR i e[i]? e S := by
  unfold varM varR
  cases e[i]? with
  | none => rfl
  | some o =>
    cases o with
    | none => rfl
    | some d =>
      cases d with
      | ref j =>
        dsimp only
        unfold varO
        cases S[j]? with
        | none => rfl
        | some ob =>
          cases ob with
          | lst w xs => cases w <;> rfl
          | _ => rfl
      | _ => rfl
@[simp] theorem cM_ap (d : D) (b : Nat) (e : Env) (S : Sto) : cM d b e S = .ok d e S := id rfl
@[simp] theorem op1_ap (f : Sto → D → Option D) (a : SE) (b : Nat) (e : Env) (S : Sto) : op1 f a b e S = (a b e S).bnd fun x e S => R.opt (f S x) e S := id rfl
@[simp] theorem op2_ap (f : Sto → D → D → Option D) (a c : SE) (b : Nat) (e : Env) (S : Sto) : op2 f a c b e S = (a b e S).bnd fun x e S => (c b e S).bnd fun y e S => R.opt (f S x y) e S := id rfl
@[simp] theorem nilA_ap (b : Nat) (e : Env) (S : Sto) : nilA b e S = .ok [] e S := id rfl
@[simp] theorem consA_ap (a : SE) (r : SA) (b : Nat) (e : Env) (S : Sto) : consA a r b e S = (a b e S).bnd fun x e S => (r b e S).bnd fun xs e S => .ok (x :: xs) e S := id rfl
@[simp] theorem fnA_ap (f : Sto → List D → Option D) (a : SA) (b : Nat) (e : Env) (S : Sto) : fnA f a b e S = (a b e S).bnd fun xs e S => R.opt (f S xs) e S := id rfl
@[simp] theorem lstA_ap (a : SA) (b : Nat) (e : Env) (S : Sto) : lstA a b e S = (a b e S).bnd fun xs e S => if xs.length ≤ line then .ok xs e S else .stuck := id rfl
@[simp] theorem frzM_ap (a : SA) (b : Nat) (e : Env) (S : Sto) : frzM a b e S = (a b e S).bnd fun xs e S => .ok (.lst xs) e S := id rfl
@[simp] theorem ownM_ap (w : Bool) (a : SA) (b : Nat) (e : Env) (S : Sto) : ownM w a b e S = (a b e S).bnd fun xs e S => .ok (.ref S.length) e (S ++ [.lst w xs]) := id rfl
@[simp] theorem tupM_ap (a : SA) (b : Nat) (e : Env) (S : Sto) : tupM a b e S = (a b e S).bnd fun xs e S => if xs.length ≤ line then .ok (.tup xs) e S else .stuck := id rfl
@[simp] theorem callM_ap (m : SF) (k : Nat) (a : SA) (b : Nat) (e : Env) (S : Sto) : callM m k a b e S = (a b e S).bnd fun xs e S => if xs.length = k then (m xs S).out e else .stuck := id rfl
@[simp] theorem tstM_ap (a : SE) (b : Nat) (e : Env) (S : Sto) : tstM a b e S = (a b e S).bnd fun x e S => R.opt (truth S x) e S := id rfl
@[simp] theorem cmpT_ap (f : Sto → D → D → Option Bool) (a c : SE) (b : Nat) (e : Env) (S : Sto) : cmpT f a c b e S = (a b e S).bnd fun x e S => (c b e S).bnd fun y e S => R.opt (f S x y) e S := id rfl
@[simp] theorem chnT_ap (f f' : Sto → D → D → Option Bool) (a c d : SE) (b : Nat) (e : Env) (S : Sto) : chnT f f' a c d b e S = (a b e S).bnd fun x e S => (c b e S).bnd fun y e S => (R.opt (f S x y) e S).bnd fun k e S => if k = true then (d b e S).bnd fun z e S => R.opt (f' S y z) e S else .ok false e S := id rfl
@[simp] theorem notT_ap (t : ST) (b : Nat) (e : Env) (S : Sto) : notT t b e S = (t b e S).bnd fun k e S => .ok (!k) e S := id rfl
@[simp] theorem andT_ap (t u : ST) (b : Nat) (e : Env) (S : Sto) : andT t u b e S = (t b e S).bnd fun k e S => if k = true then u b e S else .ok false e S := id rfl
@[simp] theorem orT_ap (t u : ST) (b : Nat) (e : Env) (S : Sto) : orT t u b e S = (t b e S).bnd fun k e S => if k = true then .ok true e S else u b e S := id rfl
@[simp] theorem ifE_ap (t : ST) (x y : SE) (b : Nat) (e : Env) (S : Sto) : ifE t x y b e S = (t b e S).bnd fun k e S => if k = true then x b e S else y b e S := id rfl
@[simp] theorem boolM_ap (t : ST) (b : Nat) (e : Env) (S : Sto) : boolM t b e S = (t b e S).bnd fun k e S => .ok (.bl k) e S := id rfl
@[simp] theorem orV_ap (a c : SE) (b : Nat) (e : Env) (S : Sto) : orV a c b e S = (a b e S).bnd fun x e S => (R.opt (truth S x) e S).bnd fun k e S => if k = true then .ok x e S else c b e S := id rfl
@[simp] theorem andV_ap (a c : SE) (b : Nat) (e : Env) (S : Sto) : andV a c b e S = (a b e S).bnd fun x e S => (R.opt (truth S x) e S).bnd fun k e S => if k = true then c b e S else .ok x e S := id rfl
@[simp] theorem notV_ap (a : SE) (b : Nat) (e : Env) (S : Sto) : notV a b e S = (a b e S).bnd fun x e S => (R.opt (truth S x) e S).bnd fun k e S => .ok (.bl (!k)) e S := id rfl
@[simp] theorem nxM_ap (b : Nat) (e : Env) (S : Sto) : nxM b e S = .ok .nx e S := id rfl
def seqR (f : Fl) (t : SS) (b : Nat) (e : Env) (S : Sto) : R Fl := match f with
  | .nx => t b e S
  | f => .ok f e S
@[simp] theorem seqR_nx (t : SS) (b : Nat) (e : Env) (S : Sto) : seqR .nx t b e S = t b e S := id rfl
@[simp] theorem seqR_ret (d : D) (t : SS) (b : Nat) (e : Env) (S : Sto) : seqR (.ret d) t b e S = .ok (.ret d) e S := id rfl
@[simp] theorem seqR_bk (t : SS) (b : Nat) (e : Env) (S : Sto) : seqR .bk t b e S = .ok .bk e S := id rfl
@[simp] theorem seqR_ct (t : SS) (b : Nat) (e : Env) (S : Sto) : seqR .ct t b e S = .ok .ct e S := id rfl
@[simp] theorem seqM_ap (s t : SS) (b : Nat) (e : Env) (S : Sto) : seqM s t b e S = (s b e S).bnd fun f e S => seqR f t b e S := id rfl
@[simp] theorem exprM_ap (a : SE) (b : Nat) (e : Env) (S : Sto) : exprM a b e S = (a b e S).bnd fun _ e S => .ok .nx e S := id rfl
@[simp] theorem retM_ap (a : SE) (b : Nat) (e : Env) (S : Sto) : retM a b e S = (a b e S).bnd fun d e S => .ok (.ret d) e S := id rfl
@[simp] theorem retN_ap (b : Nat) (e : Env) (S : Sto) : retN b e S = .ok (.ret .non) e S := id rfl
@[simp] theorem brkM_ap (b : Nat) (e : Env) (S : Sto) : brkM b e S = .ok .bk e S := id rfl
@[simp] theorem cntM_ap (b : Nat) (e : Env) (S : Sto) : cntM b e S = .ok .ct e S := id rfl
@[simp] theorem ifM_ap (t : ST) (x y : SS) (b : Nat) (e : Env) (S : Sto) : ifM t x y b e S = (t b e S).bnd fun k e S => if k = true then x b e S else y b e S := id rfl
@[simp] theorem gnM_ap (i b : Nat) (d : D) (e : Env) (S : Sto) : gnM i b d e S = if i < e.length then .ok () (e.set i (some d)) S else .stuck := id rfl
@[simp] theorem gsNil_ap (b : Nat) (e : Env) (S : Sto) : gsNil b [] e S = .ok () e S := id rfl
@[simp] theorem gsCons_ap (g : SG) (r : Nat → List D → Env → Sto → R Unit) (b : Nat) (d : D) (ds : List D) (e : Env) (S : Sto) : gsCons g r b (d :: ds) e S = (g b d e S).bnd fun _ e S => r b ds e S := id rfl
def gqR (n b : Nat) (gs : Nat → List D → Env → Sto → R Unit) (d : D) (e : Env) (S : Sto) : R Unit := match d with
  | .tup xs => if xs.length = n then gs b xs e S else .stuck
  | .lst xs => if xs.length = n then gs b xs e S else .stuck
  | .frz xs => if xs.length = n then gs b xs e S else .stuck
  | _ => .stuck
@[simp] theorem gqR_tup (n b : Nat) (gs : Nat → List D → Env → Sto → R Unit) (xs : List D) (e : Env) (S : Sto) : gqR n b gs (.tup xs) e S = if xs.length = n then gs b xs e S else .stuck := id rfl
@[simp] theorem gqR_lst (n b : Nat) (gs : Nat → List D → Env → Sto → R Unit) (xs : List D) (e : Env) (S : Sto) : gqR n b gs (.lst xs) e S = if xs.length = n then gs b xs e S else .stuck := id rfl
@[simp] theorem gqR_frz (n b : Nat) (gs : Nat → List D → Env → Sto → R Unit) (xs : List D) (e : Env) (S : Sto) : gqR n b gs (.frz xs) e S = if xs.length = n then gs b xs e S else .stuck := id rfl
@[simp] theorem gqM_ap (n : Nat) (gs : Nat → List D → Env → Sto → R Unit) (b : Nat) (d : D) (e : Env) (S : Sto) : gqM n gs b d e S = gqR n b gs (deref S d) e S := id rfl
@[simp] theorem asgM_ap (a : SE) (g : SG) (b : Nat) (e : Env) (S : Sto) : asgM a g b e S = (a b e S).bnd fun d e S => (g b d e S).bnd fun _ e S => .ok .nx e S := id rfl
def gsO (b k : Nat) (j : Int) (d : D) (o : Option Ob) (e : Env) (S : Sto) : R Unit := match o with
  | some (.lst w xs) => (match ixD xs.length j with
    | some p => if mayPut b k d = true then .ok () e (S.set k (.lst w (xs.set p d))) else .stuck
    | none => .stuck)
  | _ => .stuck
def gsP (b k : Nat) (w : Bool) (xs : List D) (d : D) (o : Option Nat) (e : Env) (S : Sto) : R Unit := match o with
  | some p => if mayPut b k d = true then .ok () e (S.set k (.lst w (xs.set p d))) else .stuck
  | none => .stuck
@[simp] theorem gsP_some (b k : Nat) (w : Bool) (xs : List D) (d : D) (p : Nat) (e : Env) (S : Sto) : gsP b k w xs d (some p) e S = if mayPut b k d = true then .ok () e (S.set k (.lst w (xs.set p d))) else .stuck := id rfl
@[simp] theorem gsO_lst (b k : Nat) (j : Int) (d : D) (w : Bool) (xs : List D) (e : Env) (S : Sto) : gsO b k j d (some (.lst w xs)) e S = gsP b k w xs d (ixD xs.length j) e S := id rfl
def gsR (b : Nat) (d x y : D) (e : Env) (S : Sto) : R Unit := match x, y with
  | .ref k, .int j => gsO b k j d S[k]? e S
  | _, _ => .stuck
@[simp] theorem gsR_ref (b k : Nat) (d : D) (j : Int) (e : Env) (S : Sto) : gsR b d (.ref k) (.int j) e S = gsO b k j d S[k]? e S := id rfl
@[simp] theorem gsM_ap (o i : SE) (b : Nat) (d : D) (e : Env) (S : Sto) : gsM o i b d e S = (o b e S).bnd fun x e S => (i b e S).bnd fun y e S => gsR b d x y e S := id rfl
@[simp] theorem mayPut_int (b i : Nat) (k : Int) : mayPut b i (.int k) = true := by simp [mayPut, D.lim]
@[simp] theorem mayPut_lim (b i : Nat) (d : D) (h : d.lim 0 = true) : mayPut b i d = true := by simp [mayPut, h]
def itR (d : D) (e : Env) (S : Sto) : R (List D) := match d with
  | .lst xs => .ok xs e S
  | .frz xs => .ok xs e S
  | .tup xs => .ok xs e S
  | _ => .stuck
@[simp] theorem itR_lst (xs : List D) (e : Env) (S : Sto) : itR (.lst xs) e S = .ok xs e S := id rfl
@[simp] theorem itR_frz (xs : List D) (e : Env) (S : Sto) : itR (.frz xs) e S = .ok xs e S := id rfl
@[simp] theorem itR_tup (xs : List D) (e : Env) (S : Sto) : itR (.tup xs) e S = .ok xs e S := id rfl
@[simp] theorem itemsM_ap (a : SE) (b : Nat) (e : Env) (S : Sto) : itemsM a b e S = (a b e S).bnd fun d e S => itR d e S := id rfl
@[simp] theorem listA_ap (a : SE) (b : Nat) (e : Env) (S : Sto) : listA a b e S = (a b e S).bnd fun x e S => itR (deref S x) e S := id rfl
def rng1R (d : D) (e : Env) (S : Sto) : R (List D) := match d with
  | .int n => R.opt (rngI 0 n) e S
  | _ => .stuck
@[simp] theorem rng1R_int (n : Int) (e : Env) (S : Sto) : rng1R (.int n) e S = R.opt (rngI 0 n) e S := id rfl
@[simp] theorem rng1_ap (a : SE) (b : Nat) (e : Env) (S : Sto) : rng1 a b e S = (a b e S).bnd fun d e S => rng1R d e S := id rfl
def rng2R (d d' : D) (e : Env) (S : Sto) : R (List D) := match d, d' with
  | .int lo, .int n => R.opt (rngI lo n) e S
  | _, _ => .stuck
@[simp] theorem rng2R_int (lo n : Int) (e : Env) (S : Sto) : rng2R (.int lo) (.int n) e S = R.opt (rngI lo n) e S := id rfl
@[simp] theorem rng2_ap (a c : SE) (b : Nat) (e : Env) (S : Sto) : rng2 a c b e S = (a b e S).bnd fun d e S => (c b e S).bnd fun d' e S => rng2R d d' e S := id rfl
@[simp] theorem forM_ap (it : SA) (g : SG) (body : SS) (b : Nat) (e : Env) (S : Sto) : forM it g body b e S = (it b e S).bnd fun xs e S => loopM g body b xs e S := id rfl
def loopR (f : Fl) (g : SG) (body : SS) (b : Nat) (ds : List D) (e : Env) (S : Sto) : R Fl := match f with
  | .nx => loopM g body b ds e S
  | .ct => loopM g body b ds e S
  | .bk => .ok .nx e S
  | .ret d => .ok (.ret d) e S
@[simp] theorem loopR_nx (g : SG) (body : SS) (b : Nat) (ds : List D) (e : Env) (S : Sto) : loopR .nx g body b ds e S = loopM g body b ds e S := id rfl
@[simp] theorem loopR_ct (g : SG) (body : SS) (b : Nat) (ds : List D) (e : Env) (S : Sto) : loopR .ct g body b ds e S = loopM g body b ds e S := id rfl
@[simp] theorem loopR_bk (g : SG) (body : SS) (b : Nat) (ds : List D) (e : Env) (S : Sto) : loopR .bk g body b ds e S = .ok .nx e S := id rfl
@[simp] theorem loopR_ret (d : D) (g : SG) (body : SS) (b : Nat) (ds : List D) (e : Env) (S : Sto) : loopR (.ret d) g body b ds e S = .ok (.ret d) e S := id rfl
@[simp] theorem loopM_nil (g : SG) (body : SS) (b : Nat) (e : Env) (S : Sto) : loopM g body b [] e S = .ok .nx e S := id rfl
theorem loopM_cons (g : SG) (body : SS) (b : Nat) (d : D) (ds : List D) (e : Env) (S : Sto) : loopM g body b (d :: ds) e S = (g b d e S).bnd fun _ e S => (body b e S).bnd fun f e S => loopR f g body b ds e S := id rfl
/-- a turn that always goes on keeps what it keeps -/
theorem loopM_inv (P : Env → Sto → Prop) {g : SG} {body : SS} {b : Nat} : ∀ (ds : List D), (∀ d ∈ ds, ∀ e S, P e S → ∃ e1 S1 e' S', g b d e S = .ok () e1 S1 ∧ body b e1 S1 = .ok .nx e' S' ∧ P e' S') → ∀ e S, P e S → ∃ e' S', loopM g body b ds e S = .ok .nx e' S' ∧ P e' S'
  | [], _, e, S, p => ⟨e, S, rfl, p⟩
  | d :: ds, h, e, S, p => by
    obtain ⟨e1, S1, e2, S2, h1, h2, p2⟩ := h d List.mem_cons_self e S p
    obtain ⟨e3, S3, h3, p3⟩ := loopM_inv P ds (fun d hd => h d (List.mem_cons_of_mem _ hd)) e2 S2 p2
    exact ⟨e3, S3, by rw [loopM_cons, h1, R.bnd_ok, h2, R.bnd_ok, loopR_nx, h3], p3⟩
/-- goes on, and P -/
def Goes (r : R Fl) (P : Env → Sto → Prop) : Prop := match r with
  | .ok .nx e S => P e S
  | .ok .ct e S => P e S
  | _ => False
@[simp] theorem goes_nx (e : Env) (S : Sto) (P : Env → Sto → Prop) : Goes (.ok .nx e S) P = P e S := id rfl
@[simp] theorem goes_ct (e : Env) (S : Sto) (P : Env → Sto → Prop) : Goes (.ok .ct e S) P = P e S := id rfl
theorem loop_goes (P : Env → Sto → Prop) {g : SG} {body : SS} {b : Nat} : ∀ (ds : List D), (∀ d ∈ ds, ∀ e S, P e S → Goes ((g b d e S).bnd fun _ e S => body b e S) P) → ∀ e S, P e S → ∃ e' S', loopM g body b ds e S = .ok .nx e' S' ∧ P e' S'
  | [], _, e, S, p => ⟨e, S, rfl, p⟩
  | d :: ds, h, e, S, p => by
    have h1 := h d List.mem_cons_self e S p
    rw [loopM_cons]
    have ih := fun e S p => loop_goes P ds (fun d hd => h d (List.mem_cons_of_mem _ hd)) e S p
    revert h1
    cases g b d e S with
    | stuck => exact fun h1 => h1.elim
    | exc c fs e1 S1 => exact fun h1 => h1.elim
    | ok u e1 S1 =>
      rw [R.bnd_ok, R.bnd_ok]
      cases body b e1 S1 with
      | stuck => exact fun h1 => h1.elim
      | exc c fs e2 S2 => exact fun h1 => h1.elim
      | ok f e2 S2 =>
        rw [R.bnd_ok]
        cases f with
        | nx => exact fun h1 => ih e2 S2 h1
        | ct => exact fun h1 => ih e2 S2 h1
        | bk => exact fun h1 => h1.elim
        | ret d => exact fun h1 => h1.elim
def partR (d : D) (e : Env) (S : Sto) : R (Option Int) := match d with
  | .int i => .ok (some i) e S
  | _ => .stuck
@[simp] theorem partR_int (i : Int) (e : Env) (S : Sto) : partR (.int i) e S = .ok (some i) e S := id rfl
@[simp] theorem partM_none (b : Nat) (e : Env) (S : Sto) : partM none b e S = .ok none e S := id rfl
@[simp] theorem partM_some (a : SE) (b : Nat) (e : Env) (S : Sto) : partM (some a) b e S = (a b e S).bnd fun x e S => partR x e S := id rfl
@[simp] theorem slcM_ap (a : SE) (lo hi : Option SE) (b : Nat) (e : Env) (S : Sto) : slcM a lo hi b e S = (a b e S).bnd fun x e S => (partM lo b e S).bnd fun l e S => (partM hi b e S).bnd fun u e S => R.opt (slcS S x l u) e S := id rfl
def isiO (tbl : List (String × Bool)) (S : Sto) (x : D) : Option Bool := match classOf S x with
  | some (c, _) => tbl.lookup c
  | none => (tyD S x).bind fun t => tbl.lookup t
@[simp] theorem isiM_ap (tbl : List (String × Bool)) (a : SE) (b : Nat) (e : Env) (S : Sto) : isiM tbl a b e S = (a b e S).bnd fun x e S => R.opt (isiO tbl S x) e S := by
  unfold isiM isiO
  congr 1
  funext x e S
  cases classOf S x with
  | none => rfl
  | some p => rfl
/-- a def's end -/
def fnR (keep : Bool) (n : Nat) (r : R Fl) : R D := match r with
  | .ok f _ S' => (match f with
    | .nx => .ok .non [] (if keep = true then S' else S'.take n)
    | .ret d => if keep = true then .ok d [] S' else if d.lim n = true then .ok d [] (S'.take n) else .stuck
    | _ => .stuck)
  | .exc c fs _ S' => if limF 0 fs = true then .exc c fs [] (S'.take n) else .stuck
  | .stuck => .stuck
theorem fnM_ap (n : Nat) (keep : Bool) (body : SS) (ds : List D) (S : Sto) : fnM n keep body ds S = fnR keep S.length (body S.length (ds.map some ++ List.replicate (n - ds.length) none) S) := id rfl
@[simp] theorem fnR_nx (n : Nat) (e : Env) (S : Sto) : fnR false n (.ok .nx e S) = .ok .non [] (S.take n) := id rfl
@[simp] theorem fnR_ret (n : Nat) (d : D) (e : Env) (S : Sto) : fnR false n (.ok (.ret d) e S) = if d.lim n = true then .ok d [] (S.take n) else .stuck := id rfl
@[simp] theorem fnR_nxk (n : Nat) (e : Env) (S : Sto) : fnR true n (.ok .nx e S) = .ok .non [] S := id rfl
@[simp] theorem fnR_retk (n : Nat) (d : D) (e : Env) (S : Sto) : fnR true n (.ok (.ret d) e S) = .ok d [] S := id rfl
@[simp] theorem fnR_exc (k : Bool) (n : Nat) (c : String) (fs : List (String × D)) (e : Env) (S : Sto) : fnR k n (.exc c fs e S) = if limF 0 fs = true then .exc c fs [] (S.take n) else .stuck := id rfl

/-! ### operations -/
@[simp] theorem deref_frz (S : Sto) (xs : List D) : deref S (.frz xs) = .frz xs := id rfl
@[simp] theorem deref_edi (S : Sto) : deref S .edi = .edi := id rfl
@[simp] theorem deref_ins (S : Sto) (c : String) (fs : List (String × D)) : deref S (.ins c fs) = .ins c fs := id rfl
theorem deref_ref' (S : Sto) (i : Nat) : deref S (.ref i) = match S[i]? with | some (.lst _ xs) => .lst xs | _ => .ref i := id rfl
theorem deref_at {S : Sto} {i : Nat} {w : Bool} {xs : List D} (h : S[i]? = some (.lst w xs)) : deref S (.ref i) = .lst xs := by
  rw [deref_ref']
  rw [h]
def drO (i : Nat) (o : Option Ob) : D := match o with
  | some (.lst _ xs) => .lst xs
  | _ => .ref i
@[simp] theorem drO_lst (i : Nat) (w : Bool) (xs : List D) : drO i (some (.lst w xs)) = .lst xs := id rfl
@[simp] theorem drO_ins (i : Nat) (c : String) (fs : List (String × D)) : drO i (some (.ins c fs)) = .ref i := id rfl
@[simp] theorem deref_ref_ap (S : Sto) (i : Nat) : deref S (.ref i) = drO i S[i]? := id rfl
theorem deref_nr (S : Sto) {d : D} (h : d.isRef = false) : deref S d = d := by cases d <;> first | rfl | cases h
@[simp] theorem addS_int (S : Sto) (i j : Int) : addS S (.int i) (.int j) = some (.int (i + j)) := id rfl
@[simp] theorem addS_lst (S : Sto) (a b : List D) : addS S (.lst a) (.lst b) = if a.length + b.length ≤ line then some (.lst (a ++ b)) else none := id rfl
@[simp] theorem addS_str (S : Sto) (a b : List Nat) : addS S (.str a) (.str b) = if a.length + b.length ≤ line then some (.str (a ++ b)) else none := id rfl
@[simp] theorem addS_byt (S : Sto) (a b : List Nat) : addS S (.byt a) (.byt b) = if a.length + b.length ≤ line then some (.byt (a ++ b)) else none := id rfl
@[simp] theorem subS_int (S : Sto) (i j : Int) : subS S (.int i) (.int j) = some (.int (i - j)) := id rfl
@[simp] theorem mulS_int (S : Sto) (i j : Int) : mulS S (.int i) (.int j) = if mulOk i j = true then some (.int (i * j)) else none := id rfl
theorem mulOk_l {i : Int} (j : Int) (h : -two64 < i ∧ i < two64) : mulOk i j = true := decide_eq_true (.inl h)
theorem mulOk_r (i : Int) {j : Int} (h : -two64 < j ∧ j < two64) : mulOk i j = true := decide_eq_true (.inr h)
@[simp] theorem mulOk_left (i j : Int) (h1 : -18446744073709551616 < i) (h2 : i < 18446744073709551616) : mulOk i j = true := mulOk_l j ⟨h1, h2⟩
@[simp] theorem mulOk_right (i j : Int) (h1 : -18446744073709551616 < j) (h2 : j < 18446744073709551616) : mulOk i j = true := mulOk_r i ⟨h1, h2⟩
@[simp] theorem mulOk_mod (x j m : Int) (h1 : 0 < m) (h2 : m ≤ 18446744073709551616) : mulOk (x % m) j = true := by
  have a := Int.emod_nonneg x (b := m) (by omega)
  have b := Int.emod_lt_of_pos x h1
  refine mulOk_l j ⟨?_, ?_⟩
  · show (-18446744073709551616 : Int) < _; omega
  · show _ < (18446744073709551616 : Int); omega
@[simp] theorem fdivS_int (S : Sto) (i j : Int) : fdivS S (.int i) (.int j) = if 0 < j ∧ j < 18446744073709551616 then some (.int (i / j)) else none := id rfl
@[simp] theorem modS_int (S : Sto) (i j : Int) : modS S (.int i) (.int j) = if 0 < j then some (.int (i % j)) else none := id rfl
@[simp] theorem powS_int (S : Sto) (i j : Int) : powS S (.int i) (.int j) = if (0 ≤ j ∧ j ≤ 1000000) ∧ (-18446744073709551616 < i ∧ i < 18446744073709551616) then some (.int (i ^ j.toNat)) else none := id rfl
@[simp] theorem negS_int (S : Sto) (i : Int) : negS S (.int i) = some (.int (-i)) := id rfl
@[simp] theorem ltS_int (S : Sto) (i j : Int) : ltS S (.int i) (.int j) = some (decide (i < j)) := id rfl
@[simp] theorem leS_int (S : Sto) (i j : Int) : leS S (.int i) (.int j) = some (decide (i ≤ j)) := id rfl
@[simp] theorem gtS_int (S : Sto) (i j : Int) : gtS S (.int i) (.int j) = some (decide (j < i)) := id rfl
@[simp] theorem geS_int (S : Sto) (i j : Int) : geS S (.int i) (.int j) = some (decide (j ≤ i)) := id rfl
@[simp] theorem dataN_int (n : Nat) (i : Int) : D.dataN n (.int i) = true := by cases n <;> rfl
@[simp] theorem dataN_non (n : Nat) : D.dataN n .non = true := by cases n <;> rfl
@[simp] theorem dataN_bl (n : Nat) (k : Bool) : D.dataN n (.bl k) = true := by cases n <;> rfl
@[simp] theorem eqS_int (S : Sto) (i j : Int) : eqS S (.int i) (.int j) = some (decide (i = j)) := by
  unfold eqS eqD
  rw [deref_int, deref_int, dataN_int, dataN_int]
  show some (i == j) = _
  by_cases h : i = j
  · subst h; simp
  · simp [h]
@[simp] theorem neS_int (S : Sto) (i j : Int) : neS S (.int i) (.int j) = some (!decide (i = j)) := by
  show (eqS S _ _).map _ = _
  rw [eqS_int]; rfl
@[simp] theorem eqS_bl (S : Sto) (i j : Bool) : eqS S (.bl i) (.bl j) = some (decide (i = j)) := by
  cases i <;> cases j <;> simp [eqS, eqD, D.eqv]
@[simp] theorem neS_bl (S : Sto) (i j : Bool) : neS S (.bl i) (.bl j) = some (!decide (i = j)) := by
  show (eqS S _ _).map _ = _
  rw [eqS_bl]; rfl
@[simp] theorem isB_bl (S : Sto) (i j : Bool) : isB S (.bl i) (.bl j) = some (decide (i = j)) := id rfl
@[simp] theorem isnB_bl (S : Sto) (i j : Bool) : isnB S (.bl i) (.bl j) = some (!decide (i = j)) := id rfl
@[simp] theorem isS_none (S : Sto) (x : D) : isS S x .non = if isGl x then none else some (isNoneD x) := id rfl
@[simp] theorem notS_none (S : Sto) (x : D) : notS S x .non = if isGl x then none else some (!isNoneD x) := id rfl
@[simp] theorem isGl_non : isGl .non = false := id rfl
@[simp] theorem isGl_int (k : Int) : isGl (.int k) = false := id rfl
@[simp] theorem isGl_bl (k : Bool) : isGl (.bl k) = false := id rfl
@[simp] theorem isGl_str (k : List Nat) : isGl (.str k) = false := id rfl
@[simp] theorem isGl_byt (k : List Nat) : isGl (.byt k) = false := id rfl
@[simp] theorem isGl_lst (k : List D) : isGl (.lst k) = false := id rfl
@[simp] theorem isGl_frz (k : List D) : isGl (.frz k) = false := id rfl
@[simp] theorem isGl_tup (k : List D) : isGl (.tup k) = false := id rfl
@[simp] theorem isGl_edi : isGl .edi = false := id rfl
@[simp] theorem isGl_ref (k : Nat) : isGl (.ref k) = false := id rfl
@[simp] theorem isGl_ins (c : String) (k : List (String × D)) : isGl (.ins c k) = false := id rfl
@[simp] theorem isN_non : isNoneD .non = true := id rfl
@[simp] theorem isN_int (k : Int) : isNoneD (.int k) = false := id rfl
@[simp] theorem isN_bl (k : Bool) : isNoneD (.bl k) = false := id rfl
@[simp] theorem isN_str (k : List Nat) : isNoneD (.str k) = false := id rfl
@[simp] theorem isN_byt (k : List Nat) : isNoneD (.byt k) = false := id rfl
@[simp] theorem isN_lst (k : List D) : isNoneD (.lst k) = false := id rfl
@[simp] theorem isN_frz (k : List D) : isNoneD (.frz k) = false := id rfl
@[simp] theorem isN_tup (k : List D) : isNoneD (.tup k) = false := id rfl
@[simp] theorem isN_edi : isNoneD .edi = false := id rfl
@[simp] theorem isN_ref (k : Nat) : isNoneD (.ref k) = false := id rfl
@[simp] theorem isN_ins (c : String) (k : List (String × D)) : isNoneD (.ins c k) = false := id rfl
@[simp] theorem truth_bl (S : Sto) (k : Bool) : truth S (.bl k) = some k := id rfl
@[simp] theorem truth_non (S : Sto) : truth S .non = some false := id rfl
@[simp] theorem truth_int (S : Sto) (k : Int) : truth S (.int k) = some (k != 0) := id rfl
@[simp] theorem truth_tup (S : Sto) (xs : List D) : truth S (.tup xs) = some (!xs.isEmpty) := id rfl
@[simp] theorem truth_lst (S : Sto) (xs : List D) : truth S (.lst xs) = some (!xs.isEmpty) := id rfl
@[simp] theorem intS_int (S : Sto) (i : Int) : intS S [.int i] = some (.int i) := id rfl
@[simp] theorem min2S_int (S : Sto) (i j : Int) : min2S S [.int i, .int j] = some (.int (if j < i then j else i)) := id rfl
@[simp] theorem max2S_int (S : Sto) (i j : Int) : max2S S [.int i, .int j] = some (.int (if j > i then j else i)) := id rfl
def lenD (d : D) : Option D := match d with
  | .lst xs => some (.int (xs.length : Int))
  | .frz xs => some (.int (xs.length : Int))
  | .tup xs => some (.int (xs.length : Int))
  | .byt s => if s.length ≤ line then some (.int (s.length : Int)) else none
  | .str s => if s.length ≤ line then some (.int (s.length : Int)) else none
  | _ => none
@[simp] theorem lenS_ap (S : Sto) (d : D) : lenS S [d] = lenD (deref S d) := id rfl
@[simp] theorem lenD_lst (xs : List D) : lenD (.lst xs) = some (.int (xs.length : Int)) := id rfl
@[simp] theorem lenD_frz (xs : List D) : lenD (.frz xs) = some (.int (xs.length : Int)) := id rfl
@[simp] theorem lenD_tup (xs : List D) : lenD (.tup xs) = some (.int (xs.length : Int)) := id rfl
@[simp] theorem lenD_byt (s : List Nat) : lenD (.byt s) = if s.length ≤ line then some (.int (s.length : Int)) else none := id rfl
def tupD (d : D) : Option D := match d with
  | .lst xs => some (.tup xs)
  | .frz xs => some (.tup xs)
  | .tup xs => some (.tup xs)
  | _ => none
@[simp] theorem tupS_ap (S : Sto) (d : D) : tupS S [d] = tupD (deref S d) := id rfl
@[simp] theorem tupD_lst (xs : List D) : tupD (.lst xs) = some (.tup xs) := id rfl
@[simp] theorem tupD_frz (xs : List D) : tupD (.frz xs) = some (.tup xs) := id rfl
@[simp] theorem tupD_tup (xs : List D) : tupD (.tup xs) = some (.tup xs) := id rfl
def idxD (d : D) (j : Int) : Option D := match d with
  | .lst xs => (ixD xs.length j).bind fun p => xs[p]?
  | .frz xs => (ixD xs.length j).bind fun p => xs[p]?
  | .tup xs => (ixD xs.length j).bind fun p => xs[p]?
  | .byt s => if s.length ≤ line ∧ 0 ≤ j ∧ j < s.length then (s[j.toNat]?).map fun (c : Nat) => .int (c : Int) else none
  | .str s => if s.length ≤ line then ((ixD s.length j).bind fun p => s[p]?).map fun c => .str [c] else none
  | _ => none
@[simp] theorem idxS_ap (S : Sto) (d : D) (j : Int) : idxS S d (.int j) = idxD (deref S d) j := id rfl
@[simp] theorem idxD_lst (xs : List D) (j : Int) : idxD (.lst xs) j = (ixD xs.length j).bind fun p => xs[p]? := id rfl
@[simp] theorem idxD_frz (xs : List D) (j : Int) : idxD (.frz xs) j = (ixD xs.length j).bind fun p => xs[p]? := id rfl
@[simp] theorem idxD_tup (xs : List D) (j : Int) : idxD (.tup xs) j = (ixD xs.length j).bind fun p => xs[p]? := id rfl
def slcD (d : D) (l u : Option Int) : Option D := match d with
  | .lst xs => some (.lst (cutL xs l u))
  | .frz xs => some (.lst (cutL xs l u))
  | .str s => if s.length ≤ line then some (.str (cutL s l u)) else none
  | .byt s => if s.length ≤ line then some (.byt (cutL s l u)) else none
  | _ => none
@[simp] theorem slcS_ap (S : Sto) (d : D) (l u : Option Int) : slcS S d l u = slcD (deref S d) l u := id rfl
@[simp] theorem slcD_lst (xs : List D) (l u : Option Int) : slcD (.lst xs) l u = some (.lst (cutL xs l u)) := id rfl
@[simp] theorem slcD_frz (xs : List D) (l u : Option Int) : slcD (.frz xs) l u = some (.lst (cutL xs l u)) := id rfl
@[simp] theorem lim_int (n : Nat) (i : Int) : (D.int i).lim n = true := id rfl
@[simp] theorem lim_non (n : Nat) : D.non.lim n = true := id rfl
@[simp] theorem lim_bl (n : Nat) (k : Bool) : (D.bl k).lim n = true := id rfl
@[simp] theorem lim_str (n : Nat) (s : List Nat) : (D.str s).lim n = true := id rfl
@[simp] theorem lim_byt (n : Nat) (s : List Nat) : (D.byt s).lim n = true := id rfl
@[simp] theorem lim_edi (n : Nat) : D.edi.lim n = true := id rfl
@[simp] theorem lim_tup (n : Nat) (xs : List D) : (D.tup xs).lim n = limL n xs := by rw [D.lim]
@[simp] theorem lim_lst (n : Nat) (xs : List D) : (D.lst xs).lim n = limL n xs := by rw [D.lim]
@[simp] theorem lim_frz (n : Nat) (xs : List D) : (D.frz xs).lim n = limL n xs := by rw [D.lim]
@[simp] theorem limL_nil (n : Nat) : limL n [] = true := by rw [limL]
@[simp] theorem limL_cons (n : Nat) (d : D) (ds : List D) : limL n (d :: ds) = (d.lim n && limL n ds) := by rw [limL]
theorem ix_nat {n : Nat} {j : Int} (h0 : 0 ≤ j) (h : j < n) : ixD n j = some j.toNat := by simp [ixD, h0, h]
@[simp] theorem ixD_nat (n k : Nat) (h : k < n) : ixD n (k : Int) = some k := by rw [ix_nat (by omega) (by omega)]; simp
@[simp] theorem ixD_0 (n : Nat) (h : 0 < n) : ixD n 0 = some 0 := by rw [ix_nat (by omega) (by omega)]; simp
@[simp] theorem ixD_1 (n : Nat) (h : 1 < n) : ixD n 1 = some 1 := by rw [ix_nat (by omega) (by omega)]; simp
@[simp] theorem ixD_2 (n : Nat) (h : 2 < n) : ixD n 2 = some 2 := by rw [ix_nat (by omega) (by omega)]; simp
@[simp] theorem ixD_3 (n : Nat) (h : 3 < n) : ixD n 3 = some 3 := by rw [ix_nat (by omega) (by omega)]; simp
@[simp] theorem ixD_4 (n : Nat) (h : 4 < n) : ixD n 4 = some 4 := by rw [ix_nat (by omega) (by omega)]; simp
@[simp] theorem ixD_5 (n : Nat) (h : 5 < n) : ixD n 5 = some 5 := by rw [ix_nat (by omega) (by omega)]; simp
@[simp] theorem ixD_6 (n : Nat) (h : 6 < n) : ixD n 6 = some 6 := by rw [ix_nat (by omega) (by omega)]; simp
@[simp] theorem ixD_7 (n : Nat) (h : 7 < n) : ixD n 7 = some 7 := by rw [ix_nat (by omega) (by omega)]; simp
@[simp] theorem ixD_m1 (n : Nat) (h : 0 < n) : ixD n (-1) = some (n - 1) := by
  unfold ixD
  rw [if_neg (by omega), if_pos (by omega)]
  congr 1
  omega
@[simp] theorem line_big : line = 16777216 := id rfl
theorem two64_big : two64 = 18446744073709551616 := id rfl
@[simp] theorem set_at {S : Sto} {i : Nat} {o o' : Ob} (h : S[i]? = some o) : (S.set i o')[i]? = some o' := List.getElem?_set_self (List.getElem?_eq_some_iff.mp h).1
theorem set_same {S : Sto} {i : Nat} {o : Ob} (h : S[i]? = some o) : S.set i o = S := by
  refine List.ext_getElem? fun j => ?_
  by_cases e : i = j
  · subst e; rw [set_at h, h]
  · rw [List.getElem?_set_ne e]
@[simp] theorem app_at (S : Sto) (o : Ob) (l : Sto) : (S ++ o :: l)[S.length]? = some o := by simp
@[simp] theorem app_at1 (S : Sto) (o o' : Ob) (l : Sto) : (S ++ o :: o' :: l)[S.length + 1]? = some o' := by simp
@[simp] theorem app_set (S : Sto) (o o' : Ob) (l : Sto) : (S ++ o :: l).set S.length o' = S ++ o' :: l := by simp
@[simp] theorem app_set1 (S : Sto) (o o' x : Ob) (l : Sto) : (S ++ o :: o' :: l).set (S.length + 1) x = S ++ o :: x :: l := by
  rw [List.set_append_right _ _ (by omega)]
  have : S.length + 1 - S.length = 1 := by omega
  rw [this]; rfl
@[simp] theorem take_set_len (S : Sto) (i : Nat) (o : Ob) : (S.set i o).take S.length = S.set i o := List.take_of_length_le (by simp)
@[simp] theorem take_len' (S : Sto) : S.take S.length = S := List.take_of_length_le (Nat.le_refl _)

/-! ### isinstance -/
@[simp] theorem isi_bool_non (S : Sto) : isiO ty_bool S (.non : D) = some false := id rfl
@[simp] theorem isi_bool_bl (S : Sto) (k : Bool) : isiO ty_bool S (.bl k : D) = some true := id rfl
@[simp] theorem isi_bool_int (S : Sto) (k : Int) : isiO ty_bool S (.int k : D) = some false := id rfl
@[simp] theorem isi_bool_str (S : Sto) (k : List Nat) : isiO ty_bool S (.str k : D) = some false := id rfl
@[simp] theorem isi_bool_byt (S : Sto) (k : List Nat) : isiO ty_bool S (.byt k : D) = some false := id rfl
@[simp] theorem isi_bool_lst (S : Sto) (k : List D) : isiO ty_bool S (.lst k : D) = some false := id rfl
@[simp] theorem isi_bool_frz (S : Sto) (k : List D) : isiO ty_bool S (.frz k : D) = some false := id rfl
@[simp] theorem isi_bool_tup (S : Sto) (k : List D) : isiO ty_bool S (.tup k : D) = some false := id rfl
@[simp] theorem isi_bool_edi (S : Sto) : isiO ty_bool S (.edi : D) = some false := id rfl
@[simp] theorem isi_int_non (S : Sto) : isiO ty_int S (.non : D) = some false := id rfl
@[simp] theorem isi_int_bl (S : Sto) (k : Bool) : isiO ty_int S (.bl k : D) = some true := id rfl
@[simp] theorem isi_int_int (S : Sto) (k : Int) : isiO ty_int S (.int k : D) = some true := id rfl
@[simp] theorem isi_int_str (S : Sto) (k : List Nat) : isiO ty_int S (.str k : D) = some false := id rfl
@[simp] theorem isi_int_byt (S : Sto) (k : List Nat) : isiO ty_int S (.byt k : D) = some false := id rfl
@[simp] theorem isi_int_lst (S : Sto) (k : List D) : isiO ty_int S (.lst k : D) = some false := id rfl
@[simp] theorem isi_int_frz (S : Sto) (k : List D) : isiO ty_int S (.frz k : D) = some false := id rfl
@[simp] theorem isi_int_tup (S : Sto) (k : List D) : isiO ty_int S (.tup k : D) = some false := id rfl
@[simp] theorem isi_int_edi (S : Sto) : isiO ty_int S (.edi : D) = some false := id rfl
@[simp] theorem isi_str_non (S : Sto) : isiO ty_str S (.non : D) = some false := id rfl
@[simp] theorem isi_str_bl (S : Sto) (k : Bool) : isiO ty_str S (.bl k : D) = some false := id rfl
@[simp] theorem isi_str_int (S : Sto) (k : Int) : isiO ty_str S (.int k : D) = some false := id rfl
@[simp] theorem isi_str_str (S : Sto) (k : List Nat) : isiO ty_str S (.str k : D) = some true := id rfl
@[simp] theorem isi_str_byt (S : Sto) (k : List Nat) : isiO ty_str S (.byt k : D) = some false := id rfl
@[simp] theorem isi_str_lst (S : Sto) (k : List D) : isiO ty_str S (.lst k : D) = some false := id rfl
@[simp] theorem isi_str_frz (S : Sto) (k : List D) : isiO ty_str S (.frz k : D) = some false := id rfl
@[simp] theorem isi_str_tup (S : Sto) (k : List D) : isiO ty_str S (.tup k : D) = some false := id rfl
@[simp] theorem isi_str_edi (S : Sto) : isiO ty_str S (.edi : D) = some false := id rfl
@[simp] theorem isi_bytes_non (S : Sto) : isiO ty_bytes S (.non : D) = some false := id rfl
@[simp] theorem isi_bytes_bl (S : Sto) (k : Bool) : isiO ty_bytes S (.bl k : D) = some false := id rfl
@[simp] theorem isi_bytes_int (S : Sto) (k : Int) : isiO ty_bytes S (.int k : D) = some false := id rfl
@[simp] theorem isi_bytes_str (S : Sto) (k : List Nat) : isiO ty_bytes S (.str k : D) = some false := id rfl
@[simp] theorem isi_bytes_byt (S : Sto) (k : List Nat) : isiO ty_bytes S (.byt k : D) = some true := id rfl
@[simp] theorem isi_bytes_lst (S : Sto) (k : List D) : isiO ty_bytes S (.lst k : D) = some false := id rfl
@[simp] theorem isi_bytes_frz (S : Sto) (k : List D) : isiO ty_bytes S (.frz k : D) = some false := id rfl
@[simp] theorem isi_bytes_tup (S : Sto) (k : List D) : isiO ty_bytes S (.tup k : D) = some false := id rfl
@[simp] theorem isi_bytes_edi (S : Sto) : isiO ty_bytes S (.edi : D) = some false := id rfl
@[simp] theorem isi_list_non (S : Sto) : isiO ty_list S (.non : D) = some false := id rfl
@[simp] theorem isi_list_bl (S : Sto) (k : Bool) : isiO ty_list S (.bl k : D) = some false := id rfl
@[simp] theorem isi_list_int (S : Sto) (k : Int) : isiO ty_list S (.int k : D) = some false := id rfl
@[simp] theorem isi_list_str (S : Sto) (k : List Nat) : isiO ty_list S (.str k : D) = some false := id rfl
@[simp] theorem isi_list_byt (S : Sto) (k : List Nat) : isiO ty_list S (.byt k : D) = some false := id rfl
@[simp] theorem isi_list_lst (S : Sto) (k : List D) : isiO ty_list S (.lst k : D) = some true := id rfl
@[simp] theorem isi_list_frz (S : Sto) (k : List D) : isiO ty_list S (.frz k : D) = some true := id rfl
@[simp] theorem isi_list_tup (S : Sto) (k : List D) : isiO ty_list S (.tup k : D) = some false := id rfl
@[simp] theorem isi_list_edi (S : Sto) : isiO ty_list S (.edi : D) = some false := id rfl
@[simp] theorem isi_tuple_non (S : Sto) : isiO ty_tuple S (.non : D) = some false := id rfl
@[simp] theorem isi_tuple_bl (S : Sto) (k : Bool) : isiO ty_tuple S (.bl k : D) = some false := id rfl
@[simp] theorem isi_tuple_int (S : Sto) (k : Int) : isiO ty_tuple S (.int k : D) = some false := id rfl
@[simp] theorem isi_tuple_str (S : Sto) (k : List Nat) : isiO ty_tuple S (.str k : D) = some false := id rfl
@[simp] theorem isi_tuple_byt (S : Sto) (k : List Nat) : isiO ty_tuple S (.byt k : D) = some false := id rfl
@[simp] theorem isi_tuple_lst (S : Sto) (k : List D) : isiO ty_tuple S (.lst k : D) = some false := id rfl
@[simp] theorem isi_tuple_frz (S : Sto) (k : List D) : isiO ty_tuple S (.frz k : D) = some false := id rfl
@[simp] theorem isi_tuple_tup (S : Sto) (k : List D) : isiO ty_tuple S (.tup k : D) = some true := id rfl
@[simp] theorem isi_tuple_edi (S : Sto) : isiO ty_tuple S (.edi : D) = some false := id rfl
end Mir
end

/-! ShDraw -/
section
set_option linter.all false
/-! ShDraw: what the drawing defs compute. -/
namespace Mir.Sh
open Mir
/-- a well: its number, how often it was asked -/
def wellOb (p : Int × Int) : Ob := .lst false [.int p.1, .int p.2]
theorem well_eq (c : Int) (S : Sto) : m__law_well [.int c] S = .ok (.ref S.length) [] (S ++ [wellOb (c, 0)]) := by
  unfold m__law_well
  rw [fnM_ap]
  simp [b__law_well_0, wellOb, line_big]
def drN (p : Int × Int) : Int := ((p.1 % 2147483629 + 60013 * (p.2 + 1) + 11) * 48271) % 2147483647
def drM (p : Int × Int) : Int := drN p * (drN p / 1013 + 40692 + p.1 / 2147483629 % 9973) % 2147483587
def dr (p : Int × Int) (many : Int) : Int := if 10 ^ 18 ≤ p.1 then p.1 % many else (drM p * (drM p / 2003 + 69621)) % 2147483563 / 5 % many
def dw (p : Int × Int) (many : Int) : Int × Int := if 10 ^ 18 ≤ p.1 then (p.1 / many, p.2) else (p.1, p.2 + 1)
theorem draw_eq {S : Sto} {i : Nat} {p : Int × Int} {many : Int} (h : S[i]? = some (wellOb p)) (hm : 0 < many ∧ many < two64) :
    m__law_draw [.ref i, .int many] S = .ok (.int (dr p many)) [] (S.set i (wellOb (dw p many))) := by
  obtain ⟨a, n⟩ := p
  unfold wellOb at h
  unfold m__law_draw
  rw [fnM_ap]
  have d1 := deref_at h
  obtain ⟨hm1, hm2⟩ := hm
  rw [two64_big] at hm2
  by_cases ha : (10 : Int) ^ 18 ≤ a
  · have ha' : (1000000000000000000 : Int) ≤ a := ha
    simp [b__law_draw_0, d1, h, ix_nat, ixD, ha', hm1, hm2, dr, dw, two64_big, wellOb]
  · have ha' : ¬ (1000000000000000000 : Int) ≤ a := ha
    have h2 : (S.set i (Ob.lst false [.int a, .int (n + 1)]))[i]? = some (.lst false [.int a, .int (n + 1)]) := set_at h
    have d2 := deref_at h2
    simp [b__law_draw_0, b__law_draw_1, b__law_draw_2, b__law_draw_3, b__law_draw_4, b__law_draw_5, d1, d2, h, ix_nat, ixD, ha', hm1, hm2, dr, dw, drM, drN, two64_big, wellOb]
theorem dr_lo (p : Int × Int) {many : Int} (hm : 0 < many) : 0 ≤ dr p many := by
  unfold dr
  split <;> exact Int.emod_nonneg _ (by omega)
theorem dr_hi (p : Int × Int) {many : Int} (hm : 0 < many) : dr p many < many := by
  unfold dr
  split <;> exact Int.emod_lt_of_pos _ hm
@[simp] theorem varO_well (i j : Nat) (p : Int × Int) (e : Env) (S : Sto) : varO i j (some (wellOb p)) e S = .ok (.ref j) e S := rfl
@[simp] theorem draw_set (S : Sto) (i : Nat) (p : Int × Int) (many : Int) (hi : i < S.length) (h1 : 0 < many) (h2 : many < 18446744073709551616) :
    m__law_draw [.ref i, .int many] (S.set i (wellOb p)) = .ok (.int (dr p many)) [] (S.set i (wellOb (dw p many))) := by
  rw [draw_eq (List.getElem?_set_self hi) ⟨h1, h2⟩, List.set_set]
theorem getD_mem {xs : List D} {k : Nat} (h : k < xs.length) : xs.getD k .non ∈ xs := by
  rw [List.getD_eq_getElem?_getD, List.getElem?_eq_getElem h]
  exact List.getElem_mem h
theorem limL_all {n : Nat} {xs : List D} (h : limL n xs = true) {d : D} (hd : d ∈ xs) : d.lim n = true := by
  obtain ⟨i, hi, e⟩ := List.getElem_of_mem hd
  exact limL_get h (List.getElem?_eq_some_iff.mpr ⟨hi, e⟩)
theorem dr_nat (p : Int × Int) {n : Nat} (hn : 0 < n) : (dr p (n : Int)).toNat < n := by
  have a := dr_lo p (many := (n : Int)) (by omega)
  have b := dr_hi p (many := (n : Int)) (by omega)
  omega
theorem one_set' (S : Sto) (i : Nat) (p : Int × Int) (xs : List D) (hi : i < S.length) (hn : 0 < xs.length) (hl : xs.length ≤ 16777216) (hlim : limL S.length xs = true) :
    m__law_one [.ref i, .lst xs] (S.set i (wellOb p)) = .ok (xs.getD (dr p xs.length).toNat .non) [] (S.set i (wellOb (dw p xs.length))) := by
  unfold m__law_one
  rw [fnM_ap]
  have a := dr_lo p (many := (xs.length : Int)) (by omega)
  have b := dr_hi p (many := (xs.length : Int)) (by omega)
  have c := dr_nat p hn
  have h1 : (0 : Int) < (xs.length : Int) := by omega
  have h2 : (xs.length : Int) < 18446744073709551616 := by omega
  have g : xs[(dr p xs.length).toNat]? = some (xs.getD (dr p xs.length).toNat .non) := by
    rw [List.getD_eq_getElem?_getD, List.getElem?_eq_getElem c]; rfl
  have l : (xs.getD (dr p xs.length).toNat .non).lim S.length = true := limL_all hlim (getD_mem c)
  generalize xs.getD (dr p xs.length).toNat .non = x at g l
  simp [b__law_one_0, ix_nat a b, draw_set S i p _ hi h1 h2, hi, g, l]
theorem one_inv {S : Sto} {i : Nat} {p : Int × Int} {xs : List D} {r : R D} (hr : m__law_one [.ref i, .lst xs] (S.set i (wellOb p)) = r) (hi : i < S.length) (hn : 0 < xs.length) (hl : xs.length ≤ 16777216) (hlim : limL S.length xs = true) :
    ∃ x ∈ xs, ∃ q, r = .ok x [] (S.set i (wellOb q)) := ⟨_, getD_mem (dr_nat p hn), _, by rw [← hr, one_set' S i p xs hi hn hl hlim]⟩
/-- the store, but for the well -/
def WellAt (S' S : Sto) (i : Nat) : Prop := ∃ q, S' = S.set i (wellOb q)
@[simp] theorem wellAt_mk (S : Sto) (i : Nat) (q : Int × Int) : WellAt (S.set i (wellOb q)) S i := ⟨q, rfl⟩
/-- what a def answers, over a well -/
def Gives (r : R D) (S : Sto) (i : Nat) (P : D → Prop) : Prop := match r with
  | .ok d e S' => e = [] ∧ WellAt S' S i ∧ P d
  | _ => False
@[simp] theorem gives_ok (d : D) (S : Sto) (i : Nat) (q : Int × Int) (P : D → Prop) : Gives (.ok d [] (S.set i (wellOb q))) S i P ↔ P d := by simp [Gives]
theorem Gives.inv {r : R D} {S : Sto} {i : Nat} {P : D → Prop} (h : Gives r S i P) : ∃ d q, r = .ok d [] (S.set i (wellOb q)) ∧ P d := by
  cases r with
  | ok d e S' =>
    obtain ⟨rfl, ⟨q, rfl⟩, h⟩ := h
    exact ⟨d, q, rfl, h⟩
  | exc c fs e S' => exact h.elim
  | stuck => exact h.elim
def IntIn (lo hi : Int) (d : D) : Prop := ∃ v : Int, d = .int v ∧ lo ≤ v ∧ v ≤ hi
@[simp] theorem intIn_int (lo hi v : Int) : IntIn lo hi (.int v) ↔ lo ≤ v ∧ v ≤ hi := ⟨fun ⟨_, e, h⟩ => by cases e; exact h, fun h => ⟨v, rfl, h⟩⟩
theorem line_sp (S : Sto) (i : Nat) (p : Int × Int) (near : Int) (hi : i < S.length) : Gives (m__law_line [.ref i, .int near] (S.set i (wellOb p))) S i (IntIn 1 2147483647) := by
  unfold m__law_line
  rw [fnM_ap]
  by_cases h : dr p 8 < 5
  · simp [b__law_line_0, b__law_line_1, hi, h]
    omega
  · have a1 := dr_lo (dw p 8) (many := 200) (by omega)
    have a2 := dr_hi (dw p 8) (many := 200) (by omega)
    have a3 := dr_lo (dw (dw p 8) 200) (many := 2147483647) (by omega)
    have a4 := dr_hi (dw (dw p 8) 200) (many := 2147483647) (by omega)
    simp [b__law_line_0, b__law_line_1, b__law_line_2, hi, h, line_big]
    generalize hr : m__law_one _ _ = r
    obtain ⟨x, hx, q, rfl⟩ := one_inv hr hi (by simp) (by simp) (by simp)
    simp only [List.mem_cons, List.not_mem_nil, or_false] at hx
    rcases hx with rfl | rfl | rfl | rfl <;> simp <;> omega
theorem column_sp (S : Sto) (i : Nat) (p : Int × Int) (hi : i < S.length) : Gives (m__law_column [.ref i] (S.set i (wellOb p))) S i (IntIn 0 2147483647) := by
  unfold m__law_column
  rw [fnM_ap]
  have a1 := dr_lo p (many := 12) (by omega)
  have a2 := dr_hi p (many := 12) (by omega)
  have a3 := dr_lo (dw p 12) (many := 82) (by omega)
  have a4 := dr_hi (dw p 12) (many := 82) (by omega)
  have a5 := dr_lo (dw (dw p 12) 82) (many := 131) (by omega)
  have a6 := dr_hi (dw (dw p 12) 82) (many := 131) (by omega)
  have a7 := dr_lo (dw (dw (dw p 12) 82) 131) (many := 9) (by omega)
  have a8 := dr_hi (dw (dw (dw p 12) 82) 131) (many := 9) (by omega)
  simp [b__law_column_0, b__law_column_1, hi, line_big]
  generalize hr : m__law_one _ _ = r
  obtain ⟨x, hx, q, rfl⟩ := one_inv hr hi (by simp) (by simp) (by simp)
  simp only [List.mem_cons, List.not_mem_nil, or_false] at hx
  rcases hx with rfl | rfl | rfl | rfl <;> simp <;> omega
/-- a span that keeps the rules -/
def SpanD (d : D) : Prop := d = .non ∨ (∃ l : Int, d = .tup [.int l, .int l, .non, .non] ∧ 1 ≤ l ∧ l ≤ 2147483647) ∨
  ∃ l k c b : Int, d = .tup [.int l, .int k, .int c, .int b] ∧ (1 ≤ l ∧ l ≤ k ∧ k ≤ 2147483647) ∧ (0 ≤ c ∧ c ≤ 2147483647) ∧ (0 ≤ b ∧ b ≤ 2147483647) ∧ (l < k ∨ c ≤ b)
@[simp] theorem spanD_non : SpanD .non := .inl rfl
@[simp] theorem spanD_two (l : Int) : SpanD (.tup [.int l, .int l, .non, .non]) ↔ 1 ≤ l ∧ l ≤ 2147483647 := by
  constructor
  · rintro (h | ⟨k, e, h⟩ | ⟨_, _, _, _, e, _⟩)
    · cases h
    · cases e; exact h
    · cases e
  · exact fun h => .inr (.inl ⟨l, rfl, h⟩)
@[simp] theorem spanD_four (l k c b : Int) : SpanD (.tup [.int l, .int k, .int c, .int b]) ↔ (1 ≤ l ∧ l ≤ k ∧ k ≤ 2147483647) ∧ (0 ≤ c ∧ c ≤ 2147483647) ∧ (0 ≤ b ∧ b ≤ 2147483647) ∧ (l < k ∨ c ≤ b) := by
  constructor
  · rintro (h | ⟨k, e, h⟩ | ⟨_, _, _, _, e, h⟩)
    · cases h
    · cases e
    · cases e; exact h
  · exact fun h => .inr (.inr ⟨l, k, c, b, rfl, h⟩)
theorem span_sp (S : Sto) (i : Nat) (p : Int × Int) (near : Int) (hi : i < S.length) : Gives (m__law_span [.ref i, .int near] (S.set i (wellOb p))) S i SpanD := by
  unfold m__law_span
  rw [fnM_ap]
  by_cases h0 : dr p 8 = 0
  · simp [b__law_span_0, b__law_span_1, hi, h0]
  obtain ⟨v, q, e1, l, rfl, hl⟩ := (line_sp S i (dw p 8) near hi).inv
  by_cases h1 : dr p 8 = 1
  · simp [b__law_span_0, b__law_span_1, b__law_span_2, b__law_span_3, hi, h0, h1, e1]
    exact hl
  obtain ⟨v, q2, e2, c, rfl, hc⟩ := (column_sp S i q hi).inv
  obtain ⟨x, hx, q3, e3⟩ := one_inv (r := _) (p := q2) (xs := [.int 17, .int 40, .int 130, .int 1000000]) rfl hi (by simp) (by simp) (by simp)
  obtain ⟨m, rfl, hm1, hm2⟩ : ∃ m : Int, x = .int m ∧ 0 < m ∧ m < 18446744073709551616 := by
    simp only [List.mem_cons, List.not_mem_nil, or_false] at hx
    rcases hx with rfl | rfl | rfl | rfl <;> exact ⟨_, rfl, by omega, by omega⟩
  have b1 := dr_lo q3 (many := m) hm1
  by_cases h5 : 5 < dr p 8
  · obtain ⟨y, hy, q4, e4⟩ := one_inv (r := _) (p := dw (dw (dw q3 m) 70) 1000000) (xs := [.int 1, .int (dr (dw q3 m) 70), .int (dr (dw (dw q3 m) 70) 1000000)]) rfl hi (by simp) (by simp) (by simp)
    have a1 := dr_lo (dw q3 m) (many := 70) (by omega)
    have a2 := dr_lo (dw (dw q3 m) 70) (many := 1000000) (by omega)
    obtain ⟨z, rfl, hz⟩ : ∃ z : Int, y = .int z ∧ 0 ≤ z := by
      simp only [List.mem_cons, List.not_mem_nil, or_false] at hy
      rcases hy with rfl | rfl | rfl <;> exact ⟨_, rfl, by omega⟩
    obtain ⟨v, q5, e5, c2, rfl, hc2⟩ := (column_sp S i q4 hi).inv
    simp [b__law_span_0, b__law_span_1, b__law_span_2, b__law_span_3, b__law_span_4, b__law_span_5, b__law_span_6, b__law_span_7, hi, h0, h1, e1, e2, e3, e4, hm1, hm2, h5, line_big]
    by_cases hg : l < (if l + z < 2147483647 then l + z else 2147483647)
    · simp [b__law_span_8, hi, hg, e5]
      omega
    · simp [b__law_span_8, b__law_span_9, hi, hg]
      omega
  · simp [b__law_span_0, b__law_span_1, b__law_span_2, b__law_span_3, b__law_span_4, b__law_span_5, b__law_span_6, b__law_span_7, b__law_span_8, b__law_span_9, hi, h0, h1, e1, e2, e3, hm1, hm2, h5]
    omega
/-! ### the same, the well laid last but some -/
@[simp] theorem drO_well (i : Nat) (p : Int × Int) : drO i (some (wellOb p)) = .lst [.int p.1, .int p.2] := id rfl
theorem draw_app (S : Sto) (p : Int × Int) (l : Sto) (many : Int) (h1 : 0 < many) (h2 : many < 18446744073709551616) : m__law_draw [.ref S.length, .int many] (S ++ wellOb p :: l) = .ok (.int (dr p many)) [] (S ++ wellOb (dw p many) :: l) := by
  rw [draw_eq (app_at S _ l) ⟨h1, h2⟩, app_set]
theorem one_app {S : Sto} {p : Int × Int} {l : Sto} {xs : List D} {r : R D} (hr : m__law_one [.ref S.length, .lst xs] (S ++ wellOb p :: l) = r) (hn : 0 < xs.length) (hl : xs.length ≤ 16777216) (hlim : limL (S ++ wellOb p :: l).length xs = true) :
    ∃ x ∈ xs, ∃ q, r = .ok x [] (S ++ wellOb q :: l) := by
  have e : S ++ wellOb p :: l = (S ++ wellOb p :: l).set S.length (wellOb p) := by rw [app_set]
  rw [e] at hr
  obtain ⟨x, hx, q, h⟩ := one_inv hr (by simp) hn hl hlim
  rw [app_set] at h
  exact ⟨x, hx, q, h⟩
theorem span_app (S : Sto) (p : Int × Int) (l : Sto) (near : Int) : ∃ d q, m__law_span [.ref S.length, .int near] (S ++ wellOb p :: l) = .ok d [] (S ++ wellOb q :: l) ∧ SpanD d := by
  have e : S ++ wellOb p :: l = (S ++ wellOb p :: l).set S.length (wellOb p) := by rw [app_set]
  obtain ⟨d, q, h, hd⟩ := (span_sp (S ++ wellOb p :: l) S.length p near (by simp)).inv
  rw [← e, app_set] at h
  exact ⟨d, q, h, hd⟩
end Mir.Sh
end

/-! ShSpan -/
section
set_option linter.all false
/-! ShSpan: what is_integer, is_ordered, is_span compute. -/
namespace Mir.Sh
open Mir
/-- none, a bool, an int, a text, bytes, a list, a tuple, {} -/
def plainD : D → Bool
  | .non | .bl _ | .int _ | .str _ | .byt _ | .lst _ | .frz _ | .tup _ | .edi => true
  | _ => false
@[simp] theorem plainD_non : plainD .non = true := id rfl
@[simp] theorem plainD_bl (k : Bool) : plainD (.bl k) = true := id rfl
@[simp] theorem plainD_int (k : Int) : plainD (.int k) = true := id rfl
@[simp] theorem plainD_str (k : List Nat) : plainD (.str k) = true := id rfl
@[simp] theorem plainD_byt (k : List Nat) : plainD (.byt k) = true := id rfl
@[simp] theorem plainD_lst (k : List D) : plainD (.lst k) = true := id rfl
@[simp] theorem plainD_frz (k : List D) : plainD (.frz k) = true := id rfl
@[simp] theorem plainD_tup (k : List D) : plainD (.tup k) = true := id rfl
@[simp] theorem plainD_edi : plainD .edi = true := id rfl
def isInt (lo hi : Int) : D → Bool
  | .int v => decide (lo ≤ v) && decide (v ≤ hi)
  | _ => false
@[simp] theorem isInt_non (lo hi : Int) : isInt lo hi .non = false := id rfl
@[simp] theorem isInt_bl (lo hi : Int) (k : Bool) : isInt lo hi (.bl k) = false := id rfl
@[simp] theorem isInt_str (lo hi : Int) (k : List Nat) : isInt lo hi (.str k) = false := id rfl
@[simp] theorem isInt_byt (lo hi : Int) (k : List Nat) : isInt lo hi (.byt k) = false := id rfl
@[simp] theorem isInt_lst (lo hi : Int) (k : List D) : isInt lo hi (.lst k) = false := id rfl
@[simp] theorem isInt_frz (lo hi : Int) (k : List D) : isInt lo hi (.frz k) = false := id rfl
@[simp] theorem isInt_tup (lo hi : Int) (k : List D) : isInt lo hi (.tup k) = false := id rfl
@[simp] theorem isInt_edi (lo hi : Int) : isInt lo hi .edi = false := id rfl
theorem is_integer_eq {d : D} (h : plainD d = true) (lo hi : Int) (S : Sto) : m_is_integer [d, .int lo, .int hi] S = .ok (.bl (isInt lo hi d)) [] S := by
  unfold m_is_integer
  rw [fnM_ap]
  have no : ∀ d : D, isiO ty_int S d = some false → isInt lo hi d = false → plainD d = true → fnR false S.length ((seqM b_is_integer_0 b_is_integer_1) S.length [some d, some (.int lo), some (.int hi)] S) = .ok (.bl (isInt lo hi d)) [] S := by
    intro d h1 h2 _
    simp [b_is_integer_0, h1, h2]
  cases d <;> first | (cases h; done) | skip
  case int v =>
    have h1 : isiO ty_int S (.int v) = some true := rfl
    have h2 : isiO ty_bool S (.int v) = some false := rfl
    by_cases ha : lo ≤ v
    · simp [b_is_integer_0, b_is_integer_1, h1, h2, isInt, ha]
    · simp [b_is_integer_0, b_is_integer_1, h1, h2, isInt, ha]
  case bl k =>
    have h1 : isiO ty_int S (.bl k) = some true := rfl
    have h2 : isiO ty_bool S (.bl k) = some true := rfl
    simp [b_is_integer_0, h1, h2, isInt]
  all_goals exact no _ rfl rfl rfl
theorem plain_gl {d : D} (h : plainD d = true) : isGl d = false := by cases d <;> first | rfl | cases h
theorem plain_nr {d : D} (h : plainD d = true) : d.isRef = false := by cases d <;> first | rfl | cases h
def leD (c b : D) : Bool := match c, b with
  | .int x, .int y => decide (x ≤ y)
  | _, _ => false
@[simp] theorem leD_int (x y : Int) : leD (.int x) (.int y) = decide (x ≤ y) := id rfl
def ordB (l k : Int) (c b : D) : Bool := if isNoneD c = true ∧ isNoneD b = true then decide (l = k) else isInt 0 2147483647 c && isInt 0 2147483647 b && (decide (l < k) || leD c b)
theorem isInt_inv {lo hi : Int} {d : D} (h : isInt lo hi d = true) : ∃ v, d = .int v := by
  cases d <;> first | exact ⟨_, rfl⟩ | cases h
theorem is_ordered_eq {c b : D} (hc : plainD c = true) (hb : plainD b = true) (l k : Int) (S : Sto) : m_is_ordered [.int l, .int k, c, b] S = .ok (.bl (ordB l k c b)) [] S := by
  unfold m_is_ordered
  rw [fnM_ap]
  by_cases h1 : isNoneD c = true
  · by_cases h2 : isNoneD b = true
    · simp [b_is_ordered_0, plain_gl hc, plain_gl hb, h1, h2, ordB]
    · cases c <;> first | (cases h1; done) | skip
      simp [b_is_ordered_0, b_is_ordered_1, plain_gl hb, h2, ordB, is_integer_eq, isInt]
  · by_cases h3 : isInt 0 2147483647 c = true
    · obtain ⟨x, rfl⟩ := isInt_inv h3
      by_cases h4 : isInt 0 2147483647 b = true
      · obtain ⟨y, rfl⟩ := isInt_inv h4
        by_cases h5 : l < k
        · simp [b_is_ordered_0, b_is_ordered_1, b_is_ordered_2, is_integer_eq, h3, h4, h5, ordB]
        · simp [b_is_ordered_0, b_is_ordered_1, b_is_ordered_2, is_integer_eq, h3, h4, h5, ordB]
      · simp [b_is_ordered_0, b_is_ordered_1, is_integer_eq, hb, plain_nr hb, h3, h4, ordB]
    · simp [b_is_ordered_0, b_is_ordered_1, is_integer_eq, hc, hb, plain_nr hc, plain_gl hc, h1, h3, ordB]
/-- is_span, on values -/
def spanB (l k c b : D) : Bool := match l with
  | .int v => isInt 1 2147483647 l && isInt v 2147483647 k && (match k with
    | .int w => ordB v w c b
    | _ => false)
  | _ => false
def isSpanB : D → Bool
  | .non => true
  | .tup [l, k, c, b] => spanB l k c b
  | _ => false
theorem is_span_four {l k c b : D} (hl : plainD l = true) (hk : plainD k = true) (hc : plainD c = true) (hb : plainD b = true) (S : Sto) : m_is_span [.tup [l, k, c, b]] S = .ok (.bl (spanB l k c b)) [] S := by
  unfold m_is_span
  rw [fnM_ap]
  have h1 : isiO ty_tuple S (.tup [l, k, c, b]) = some true := rfl
  by_cases h3 : isInt 1 2147483647 l = true
  · obtain ⟨v, rfl⟩ := isInt_inv h3
    by_cases h4 : isInt v 2147483647 k = true
    · obtain ⟨w, rfl⟩ := isInt_inv h4
      simp [b_is_span_0, b_is_span_1, b_is_span_2, b_is_span_3, b_is_span_4, h1, is_integer_eq, is_ordered_eq, h3, h4, hc, hb, plain_nr hc, plain_nr hb, spanB]
    · have : spanB (.int v) k c b = false := by simp [spanB, h4]
      rw [this]
      simp [b_is_span_0, b_is_span_1, b_is_span_2, b_is_span_3, h1, is_integer_eq, h3, h4, hk, plain_nr hk]
  · have : spanB l k c b = false := by cases l <;> simp_all [spanB]
    rw [this]
    simp [b_is_span_0, b_is_span_1, b_is_span_2, b_is_span_3, h1, is_integer_eq, h3, hl, plain_nr hl]
theorem is_span_non (S : Sto) : m_is_span [.non] S = .ok (.bl true) [] S := by
  unfold m_is_span
  rw [fnM_ap]
  simp [b_is_span_0]
theorem is_span_tup {xs : List D} (h : xs.length ≠ 4) (S : Sto) : m_is_span [.tup xs] S = .ok (.bl false) [] S := by
  unfold m_is_span
  rw [fnM_ap]
  have h1 : isiO ty_tuple S (.tup xs) = some true := rfl
  have h2 : ¬ (xs.length : Int) = 4 := by omega
  simp [b_is_span_0, b_is_span_1, h1, h2]
theorem is_span_not {d : D} (h : plainD d = true) (h0 : isiO ty_tuple [] d = some false) (hn : isNoneD d = false) (S : Sto) : m_is_span [d] S = .ok (.bl false) [] S := by
  unfold m_is_span
  rw [fnM_ap]
  have h1 : isiO ty_tuple S d = some false := by cases d <;> first | exact h0 | cases h
  simp [b_is_span_0, b_is_span_1, h1, plain_gl h, hn]
end Mir.Sh
end

/-! K01_P -/
section
set_option linter.all false
/-! K01_P: the law, on meanings. -/
namespace Mir.K01
open Mir Mir.Sh
theorem whole_eq {d : D} (h : plainD d = true) (lo : Int) (S : Sto) : m__law_whole [d, .int lo] S = .ok (.bl (isInt lo 2147483647 d)) [] S := by
  unfold m__law_whole
  rw [fnM_ap]
  cases d <;> first | (cases h; done) | skip
  case int v =>
    have h1 : isiO ty_int S (.int v) = some true := rfl
    have h2 : isiO ty_bool S (.int v) = some false := rfl
    by_cases ha : lo ≤ v
    · simp [b__law_whole_0, h1, h2, isInt, ha]
    · simp [b__law_whole_0, h1, h2, isInt, ha]
  case bl k =>
    have h1 : isiO ty_int S (.bl k) = some true := rfl
    have h2 : isiO ty_bool S (.bl k) = some true := rfl
    simp [b__law_whole_0, h1, h2, isInt]
  all_goals
    simp [b__law_whole_0, isInt]
theorem law_is_span_eq {l k c b : D} (hl : plainD l = true) (hk : plainD k = true) (hc : plainD c = true) (hb : plainD b = true) (S : Sto) : m__law_is_span [.lst [l, k, c, b]] S = .ok (.bl (spanB l k c b)) [] S := by
  unfold m__law_is_span
  rw [fnM_ap]
  by_cases h1 : isInt 1 2147483647 l = true
  · obtain ⟨v, rfl⟩ := isInt_inv h1
    by_cases h2 : isInt 1 2147483647 k = true
    · obtain ⟨w, rfl⟩ := isInt_inv h2
      have h1' : 1 ≤ v ∧ v ≤ 2147483647 := by simpa [isInt] using h1
      have h2' : 1 ≤ w ∧ w ≤ 2147483647 := by simpa [isInt] using h2
      by_cases h3 : w < v
      · have : spanB (.int v) (.int w) c b = false := by simp [spanB, isInt]; omega
        rw [this]
        simp [b__law_is_span_0, b__law_is_span_1, whole_eq, h1, h2, h3]
      · have : spanB (.int v) (.int w) c b = ordB v w c b := by
          have h4 : v ≤ w := by omega
          simp [spanB, h1, h2', isInt, h4, h1']
        rw [this]
        by_cases h4 : isNoneD c = true
        · by_cases h5 : isNoneD b = true
          · simp [b__law_is_span_0, b__law_is_span_1, b__law_is_span_2, whole_eq, h1, h2, h3, h4, h5, plain_gl hc, plain_gl hb, ordB]
          · cases c <;> first | (cases h4; done) | skip
            simp [b__law_is_span_0, b__law_is_span_1, b__law_is_span_2, b__law_is_span_3, whole_eq, h1, h2, h3, h5, plain_gl hb, ordB]
        · by_cases h6 : isInt 0 2147483647 c = true
          · obtain ⟨x, rfl⟩ := isInt_inv h6
            by_cases h7 : isInt 0 2147483647 b = true
            · obtain ⟨y, rfl⟩ := isInt_inv h7
              by_cases h8 : v < w
              · simp [b__law_is_span_0, b__law_is_span_1, b__law_is_span_2, b__law_is_span_3, b__law_is_span_4, whole_eq, h1, h2, h3, h6, h7, h8, ordB]
              · simp [b__law_is_span_0, b__law_is_span_1, b__law_is_span_2, b__law_is_span_3, b__law_is_span_4, whole_eq, h1, h2, h3, h6, h7, h8, ordB]
            · simp [b__law_is_span_0, b__law_is_span_1, b__law_is_span_2, b__law_is_span_3, whole_eq, h1, h2, h3, h6, h7, hb, plain_nr hb, ordB]
          · simp [b__law_is_span_0, b__law_is_span_1, b__law_is_span_2, b__law_is_span_3, whole_eq, h1, h2, h3, h4, h6, hc, plain_nr hc, plain_gl hc, ordB]
    · have : spanB (.int v) k c b = false := by
        have h1' : 1 ≤ v ∧ v ≤ 2147483647 := by simpa [isInt] using h1
        cases k <;> simp_all [spanB, isInt]
        omega
      rw [this]
      simp [b__law_is_span_0, b__law_is_span_1, whole_eq, h1, h2, hk, plain_nr hk]
  · have : spanB l k c b = false := by cases l <;> simp_all [spanB]
    rw [this]
    simp [b__law_is_span_0, b__law_is_span_1, whole_eq, h1, hl, plain_nr hl]
/-- a value of the list of odd parts -/
theorem spanD_plain {d : D} (h : SpanD d) : plainD d = true ∧ d.lim 0 = true := by
  rcases h with rfl | ⟨l, rfl, _⟩ | ⟨l, k, c, b, rfl, _⟩ <;> simp
theorem spanD_ok {d : D} (h : SpanD d) (S : Sto) : m_is_span [d] S = .ok (.bl true) [] S := by
  rcases h with rfl | ⟨l, rfl, h1, h2⟩ | ⟨l, k, c, b, rfl, h1, h2, h3, h4⟩
  · exact is_span_non S
  · rw [is_span_four (by simp) (by simp) (by simp) (by simp)]
    simp [spanB, isInt, ordB, h1, h2]
  · rw [is_span_four (by simp) (by simp) (by simp) (by simp)]
    have : spanB (.int l) (.int k) (.int c) (.int b) = true := by
      simp [spanB, isInt, ordB]
      omega
    rw [this]
/-- four parts of a span -/
def Four (l k c b : D) : Prop := (plainD l = true ∧ plainD k = true ∧ plainD c = true ∧ plainD b = true) ∧ l.lim 0 = true ∧ k.lim 0 = true ∧ c.lim 0 = true ∧ b.lim 0 = true
theorem lim_up {d : D} (h : d.lim 0 = true) (n : Nat) : d.lim n = true := lim_mono (Nat.zero_le n) d h
theorem turn2 (z : Int) (a0 : Option D) (d : D) (a5 a6 a7 : Option D) (S : Sto) (q : Int × Int) (l k c b : D) (h : Four l k c b) :
    Goes (l_law_0_4 0 [a0, some (.int z), some (.ref S.length), some d, some (.ref (S.length + 1)), a5, a6, a7] (S ++ [wellOb q, .lst true [l, k, c, b]])) fun e _ => e.length = 8 := by
  obtain ⟨⟨p1, p2, p3, p4⟩, m1, m2, m3, m4⟩ := h
  have b1 := dr_lo q (many := 4) (by omega)
  have b2 := dr_hi q (many := 4) (by omega)
  obtain ⟨j, hj⟩ : ∃ j : Nat, j < 4 ∧ dr q 4 = (j : Int) := ⟨(dr q 4).toNat, by omega, by omega⟩
  simp [l_law_0_4, l_law_0_5, draw_app, hj.2]
  generalize hr : m__law_one _ _ = r
  obtain ⟨x, hx, q2, rfl⟩ := one_app hr (by simp) (by simp) (by simp [lim_up m1])
  have hx' : plainD x = true ∧ x.lim 0 = true := by
    simp only [List.mem_cons, List.not_mem_nil, or_false] at hx
    rcases hx with rfl | rfl | rfl | rfl | rfl | rfl | rfl | rfl | rfl | rfl <;> simp [p1, m1]
  obtain ⟨l', k', c', b', e4, ⟨h1, h2, h3, h4⟩, n1, n2, n3, n4⟩ : ∃ l' k' c' b', [l, k, c, b].set j x = [l', k', c', b'] ∧ Four l' k' c' b' := by
    rcases hj with ⟨hj, _⟩
    have : j = 0 ∨ j = 1 ∨ j = 2 ∨ j = 3 := by omega
    rcases this with rfl | rfl | rfl | rfl <;> exact ⟨_, _, _, _, rfl, by simp [Four, p1, p2, p3, p4, m1, m2, m3, m4, hx'.1, hx'.2]⟩
  simp [plain_nr hx'.1, l_law_0_6, hj.1, hx'.2, e4]
  simp [l_law_0_7, is_span_four h1 h2 h3 h4, law_is_span_eq h1 h2 h3 h4]
  simp [l_law_0_8]
  generalize hr2 : m__law_one _ _ = r2
  obtain ⟨y, hy, q3, rfl⟩ := one_app hr2 (by simp) (by simp) (by simp [lim_up n1, lim_up n2, lim_up n3, lim_up n4])
  have hy' : y.isRef = false ∧ ∀ S, m_is_span [y] S = .ok (.bl false) [] S := by
    simp only [List.mem_cons, List.not_mem_nil, or_false] at hy
    rcases hy with rfl | rfl | rfl | rfl | rfl | rfl | rfl | rfl | rfl
    · exact ⟨rfl, is_span_not rfl (by simp) (by simp)⟩
    · exact ⟨rfl, is_span_tup (by simp)⟩
    · exact ⟨rfl, is_span_tup (by simp)⟩
    · exact ⟨rfl, is_span_tup (by simp)⟩
    · exact ⟨rfl, is_span_not rfl (by simp) (by simp)⟩
    · exact ⟨rfl, is_span_not rfl (by simp) (by simp)⟩
    · exact ⟨rfl, is_span_not rfl (by simp) (by simp)⟩
    · exact ⟨rfl, is_span_not rfl (by simp) (by simp)⟩
    · exact ⟨rfl, is_span_not rfl (by simp) (by simp)⟩
  simp [hy'.1, l_law_0_9, hy'.2]
theorem turn (z : Int) (a0 a1 a2 a3 a4 a5 a6 a7 : Option D) (S : Sto) : Goes ((gnM 1 0 (.int z) [a0, a1, a2, a3, a4, a5, a6, a7] S).bnd fun _ e S => l_law_0 0 e S) fun e _ => e.length = 8 := by
  obtain ⟨d, q, e1, hd⟩ := span_app S (z, 0) [] 5
  simp [l_law_0, l_law_0_1, l_law_0_2, l_law_0_3, well_eq, e1, plain_nr (spanD_plain hd).1, spanD_ok hd]
  generalize hr : m__law_one _ _ = r
  obtain ⟨x, hx, q2, rfl⟩ := one_app hr (by simp) (by simp) (by simp [lim_up (spanD_plain hd).2])
  have hx' : x = .non ∨ ∃ l k c b, x = .tup [l, k, c, b] ∧ Four l k c b := by
    simp only [List.mem_cons, List.not_mem_nil, or_false] at hx
    rcases hx with rfl | rfl | rfl | rfl
    · rcases hd with rfl | ⟨l, rfl, _⟩ | ⟨l, k, c, b, rfl, _⟩
      · exact .inl rfl
      · exact .inr ⟨_, _, _, _, rfl, by simp [Four]⟩
      · exact .inr ⟨_, _, _, _, rfl, by simp [Four]⟩
    · exact .inr ⟨_, _, _, _, rfl, by simp [Four]⟩
    · exact .inr ⟨_, _, _, _, rfl, by simp [Four]⟩
    · exact .inr ⟨_, _, _, _, rfl, by simp [Four]⟩
  rcases hx' with rfl | ⟨l, k, c, b, rfl, h4⟩
  · simp
    exact turn2 z a0 d a5 a6 a7 S q2 _ _ _ _ (by simp [Four])
  · simp
    exact turn2 z a0 d a5 a6 a7 S q2 _ _ _ _ h4
theorem cut_top {α : Type} (xs : List α) (n : Nat) : cutL xs none (some (n : Int)) = xs.take n := by
  unfold cutL cutI
  have : ¬ (n : Int) < 0 := by omega
  simp only [List.drop_zero, this, if_false, Int.toNat_natCast, Nat.sub_zero]
  rw [Nat.min_def]
  split
  · rfl
  · rw [List.take_of_length_le (Nat.le_refl _), List.take_of_length_le (by omega)]
theorem law_holds (ns : List Int) (h63 : ns.length ≤ 63) (_ : ∀ z ∈ ns, PySem.Builtin.Int.intBits z ≤ 1048576) : ∃ e S', m_law [.frz (ns.map D.int)] [] = .ok (.bl true) e S' := by
  have hl : (((ns.map D.int).take 10).length + 1 : Nat) ≤ 16777216 := by simp; omega
  have c : cutL (ns.map D.int) none (some 10) = (ns.map D.int).take 10 := cut_top _ 10
  unfold m_law
  rw [fnM_ap]
  obtain ⟨e', S', h1, h2⟩ := loop_goes (fun e _ => e.length = 8) (g := gnM 1) (body := l_law_0) (b := 0) ((ns.map D.int).take 10 ++ [.int 0]) (fun d hd e S he => by
    obtain ⟨z, rfl⟩ : ∃ z : Int, d = .int z := by
      rcases List.mem_append.mp hd with h | h
      · obtain ⟨z, _, rfl⟩ := List.mem_map.mp (List.mem_of_mem_take h)
        exact ⟨z, rfl⟩
      · simp at h; exact ⟨0, h⟩
    match e, he with
    | [a0, a1, a2, a3, a4, a5, a6, a7], _ => exact turn z a0 a1 a2 a3 a4 a5 a6 a7 S) [some (.frz (ns.map D.int)), none, none, none, none, none, none, none] [] rfl
  refine ⟨[], [], ?_⟩
  have hm : min 10 ns.length ≤ 16777215 := by omega
  simp [b_law_0, b_law_1, c, h1, hm]
end Mir.K01
end

/-! K01_E -/
section
set_option Elab.async false
set_option linter.all false
open PySem PySem.W PyProof.Rows in
set_option maxRecDepth 100000 in
set_option maxHeartbeats 0 in
theorem PySem.Challenge.cw_codespans_k01_spans_judged_holds : PySem.Challenge.rw_codespans_k01_spans_judged.Holds := by
  w_on; o_law; k_head; (case hw => w_witness2)
  k_fill
  refine Mir.law_end (l := PySem.Challenge.rw_codespans_k01_spans_judged) (k := 5) (x := "_law_script") (m := Mir.K01.m_law) rfl rfl ⟨rfl, by decide, by decide⟩ (fun w h Y => PySem.W.kIn_of Y) ?F Mir.K01.law_holds
  case F =>
    intro w mg fa h KX G hmg
    refine' Mir.K01.all_mk KX G hmg ?a0 ?l0 ?c0 ?k0 ?a1 ?l1 ?c1 ?k1 ?a2 ?l2 ?c2 ?k2 ?a3 ?l3 ?c3 ?k3 ?a4 ?l4 ?c4 ?k4 ?a5 ?l5 ?c5 ?k5 ?a6 ?l6 ?c6 ?k6 ?a7 ?l7 ?c7 ?k7 ?a8 ?l8 ?c8 ?k8 ?a9 ?l9 ?c9 ?k9 ?a10 ?l10 ?c10 ?k10 ?a11 ?l11 ?c11 ?k11 ?z_NoneType ?z_bool ?z_bytes ?z_dict ?z_int ?z_isinstance ?z_len ?z_list ?z_max ?z_min ?z_str ?z_tuple ?y_MOST
    (case a0 => k_is)
    (case l0 => k_is)
    (case c0 => k_is)
    (case k0 => k_is)
    (case a1 => k_is)
    (case l1 => k_is)
    (case c1 => k_is)
    (case k1 => k_is)
    (case a2 => k_is)
    (case l2 => k_is)
    (case c2 => k_is)
    (case k2 => k_is)
    (case a3 => k_is)
    (case l3 => k_is)
    (case c3 => k_is)
    (case k3 => k_is)
    (case a4 => k_is)
    (case l4 => k_is)
    (case c4 => k_is)
    (case k4 => k_is)
    (case a5 => k_is)
    (case l5 => k_is)
    (case c5 => k_is)
    (case k5 => k_is)
    (case a6 => k_is)
    (case l6 => k_is)
    (case c6 => k_is)
    (case k6 => k_is)
    (case a7 => k_is)
    (case l7 => k_is)
    (case c7 => k_is)
    (case k7 => k_is)
    (case a8 => k_is)
    (case l8 => k_is)
    (case c8 => k_is)
    (case k8 => k_is)
    (case a9 => k_is)
    (case l9 => k_is)
    (case c9 => k_is)
    (case k9 => k_is)
    (case a10 => k_is)
    (case l10 => k_is)
    (case c10 => k_is)
    (case k10 => k_is)
    (case a11 => k_is)
    (case l11 => k_is)
    (case c11 => k_is)
    (case k11 => k_is)
    (case z_NoneType => k_is)
    (case z_bool => k_is)
    (case z_bytes => k_is)
    (case z_dict => k_is)
    (case z_int => k_is)
    (case z_isinstance => k_is)
    (case z_len => k_is)
    (case z_list => k_is)
    (case z_max => k_is)
    (case z_min => k_is)
    (case z_str => k_is)
    (case z_tuple => k_is)
    (case y_MOST => k_is)
#print axioms PySem.Challenge.cw_codespans_k01_spans_judged_holds
end
