import PyProof.Rows.All
import Wide.All
import OpenK.AllK
import Wide.FinOn
import HandS.ForMost
import PySem.Challenge.RW_codespans_k33_source_edits
import HandS.ForSpec
import HandS.Comp
import HandS.TryMany
import HandS.ExcField
import HandS.Property
import HandS.ExcInit
import HandS.Wide
import HandS.More
import HandS.IsInst
import HandS.DictComp
import HandS.DictEq
import HandS.Text
import HandS.TryOnly
import HandS.EndBits
import HandS.TupLe
import HandS.Flow
import HandS.Dict
import HandS.WideMore
import HandS.BytesMake
import HandS.Iter
import PyProof.ListIndexNeg
import HandS.ClsMeth
import KE.GoesEnum
import HandS.OwnEq
import HandS.TupAny
import HandS.Star

/-! MirSem -/
section
/-! MirSem: a small language of meanings (values as trees, a store for what changes). No model in sight. -/
set_option linter.all false
namespace Mir

/-- a value as a tree; ref: an object of the store -/
inductive D where
  | non | bl (b : Bool) | int (i : Int) | str (s : List Nat) | byt (b : List Nat)
  | lst (xs : List D) | frz (xs : List D) | tup (xs : List D)
  | ins (c : String) (fs : List (String × D))
  | exn (c : String) (fs : List (String × D))
  | gl (x : String) | ty (x : String)
  | edi
  | ref (i : Nat)
  deriving Inhabited

/-- the codes of a text -/
def cps (s : String) : List Nat := s.toList.map Char.toNat

mutual
/-- all refs in it are below n -/
def D.lim (n : Nat) : D → Bool
  | .lst xs => limL n xs
  | .frz xs => limL n xs
  | .tup xs => limL n xs
  | .ins _ fs => limF n fs
  | .exn _ fs => limF n fs
  | .ref i => decide (i < n)
  | _ => true
def limL (n : Nat) : List D → Bool
  | [] => true
  | d :: ds => d.lim n && limL n ds
def limF (n : Nat) : List (String × D) → Bool
  | [] => true
  | p :: ds => p.2.lim n && limF n ds
end

def b2n (b : Bool) : Int := if b then 1 else 0

mutual
/-- == of data -/
def D.eqv : D → D → Bool
  | .non, .non => true
  | .bl a, .bl b => a == b
  | .bl a, .int j => b2n a == j
  | .int i, .bl b => i == b2n b
  | .int i, .int j => i == j
  | .str x, .str y => x == y
  | .byt x, .byt y => x == y
  | .lst xs, .lst ys => eqvL xs ys
  | .tup xs, .tup ys => eqvL xs ys
  | _, _ => false
def eqvL : List D → List D → Bool
  | [], [] => true
  | x :: xs, y :: ys => x.eqv y && eqvL xs ys
  | _, _ => false
end
mutual
/-- none, bools, ints, texts, lists and tuples of these, at most n deep -/
def D.dataN : Nat → D → Bool
  | _, .non => true
  | _, .bl _ => true
  | _, .int _ => true
  | _, .str s => s.all fun c => decide (c < 1114112)
  | n, .lst xs => decide (0 < n) && dataL (n - 1) xs
  | n, .tup xs => decide (0 < n) && dataL (n - 1) xs
  | _, _ => false
def dataL : Nat → List D → Bool
  | _, [] => true
  | n, d :: ds => D.dataN n d && dataL n ds
end

/-- what stands in the store -/
inductive Ob where
  | dead
  | lst (own : Bool) (xs : List D)
  | ins (c : String) (fs : List (String × D))
  deriving Inhabited
/-- refs within are below n -/
def Ob.lim (n : Nat) : Ob → Bool
  | .dead => true
  | .lst _ xs => limL n xs
  | .ins _ fs => limF n fs
abbrev Sto := List Ob
abbrev Env := List (Option D)

inductive R (α : Type) where
  | ok (a : α) (e : Env) (S : Sto)
  | exc (c : String) (fs : List (String × D)) (e : Env) (S : Sto)
  | stuck
def R.bind {α β : Type} (r : R α) (k : α → Env → Sto → R β) : R β := match r with
  | .ok a e S => k a e S
  | .exc c fs e S => .exc c fs e S
  | .stuck => .stuck
@[simp] theorem R.bind_ok {α β : Type} (a : α) (e : Env) (S : Sto) (k : α → Env → Sto → R β) : (R.ok a e S).bind k = k a e S := rfl
@[simp] theorem R.bind_exc {α β : Type} (c : String) (fs : List (String × D)) (e : Env) (S : Sto) (k : α → Env → Sto → R β) : (R.exc c fs e S).bind k = .exc c fs e S := rfl
@[simp] theorem R.bind_stuck {α β : Type} (k : α → Env → Sto → R β) : (R.stuck : R α).bind k = .stuck := rfl
def R.opt {α : Type} (o : Option α) (e : Env) (S : Sto) : R α := match o with
  | some a => .ok a e S
  | none => .stuck
@[simp] theorem R.opt_some {α : Type} (a : α) (e : Env) (S : Sto) : R.opt (some a) e S = .ok a e S := rfl
@[simp] theorem R.opt_none {α : Type} (e : Env) (S : Sto) : (R.opt none e S : R α) = .stuck := rfl

abbrev SE := Nat → Env → Sto → R D
abbrev SA := Nat → Env → Sto → R (List D)
abbrev ST := Nat → Env → Sto → R Bool
inductive Fl where
  | nx | ret (d : D) | bk | ct
abbrev SS := Nat → Env → Sto → R Fl
abbrev SF := List D → Sto → R D
abbrev SG := Nat → D → Env → Sto → R Unit

def line : Nat := 16777216

/-! ### the store read -/
def derefL (S : Sto) : D → Option (List D)
  | .lst xs => some xs
  | .frz xs => some xs
  | .ref i => match S[i]? with
    | some (.lst _ xs) => some xs
    | _ => none
  | _ => none
/-- a list or a tuple -/
def seqOf (S : Sto) : D → Option (List D)
  | .tup xs => some xs
  | d => derefL S d
/-- a list of the store as a tree -/
def deref (S : Sto) : D → D
  | .ref i => match S[i]? with
    | some (.lst _ xs) => .lst xs
    | _ => .ref i
  | d => d
@[simp] theorem derefL_lst (S : Sto) (xs : List D) : derefL S (.lst xs) = some xs := rfl
@[simp] theorem derefL_frz (S : Sto) (xs : List D) : derefL S (.frz xs) = some xs := rfl
@[simp] theorem seqOf_lst (S : Sto) (xs : List D) : seqOf S (.lst xs) = some xs := rfl
@[simp] theorem seqOf_frz (S : Sto) (xs : List D) : seqOf S (.frz xs) = some xs := rfl
@[simp] theorem seqOf_tup (S : Sto) (xs : List D) : seqOf S (.tup xs) = some xs := rfl
@[simp] theorem deref_lst (S : Sto) (xs : List D) : deref S (.lst xs) = .lst xs := rfl
@[simp] theorem deref_tup (S : Sto) (xs : List D) : deref S (.tup xs) = .tup xs := rfl
@[simp] theorem deref_int (S : Sto) (i : Int) : deref S (.int i) = .int i := rfl
@[simp] theorem deref_non (S : Sto) : deref S .non = .non := rfl
@[simp] theorem deref_bl (S : Sto) (b : Bool) : deref S (.bl b) = .bl b := rfl
@[simp] theorem deref_str (S : Sto) (s : List Nat) : deref S (.str s) = .str s := rfl
@[simp] theorem deref_byt (S : Sto) (s : List Nat) : deref S (.byt s) = .byt s := rfl

/-! ### expressions -/
def cM (d : D) : SE := fun _ e S => .ok d e S
/-- a name's value, as it stands -/
def rawM (i : Nat) : SE := fun _ e S => match e[i]? with
  | some (some d) => .ok d e S
  | _ => .stuck
/-- a name's value that is handed on: an own list of the frame is frozen -/
def varM (i : Nat) : SE := fun _ e S => match e[i]? with
  | some (some (.ref j)) => (match S[j]? with
    | some (.lst true xs) => .ok (.lst xs) (e.set i (some (.lst xs))) (S.set j .dead)
    | _ => .ok (.ref j) e S)
  | some (some d) => .ok d e S
  | _ => .stuck
def op1 (f : Sto → D → Option D) (a : SE) : SE := fun b e S => (a b e S).bind fun x e S => R.opt (f S x) e S
def op2 (f : Sto → D → D → Option D) (a c : SE) : SE := fun b e S => (a b e S).bind fun x e S => (c b e S).bind fun y e S => R.opt (f S x y) e S
def nilA : SA := fun _ e S => .ok [] e S
def consA (a : SE) (r : SA) : SA := fun b e S => (a b e S).bind fun x e S => (r b e S).bind fun xs e S => .ok (x :: xs) e S
/-- a built-in of values -/
def fnA (f : Sto → List D → Option D) (a : SA) : SE := fun b e S => (a b e S).bind fun xs e S => R.opt (f S xs) e S
/-- a new list's items -/
def lstA (a : SA) : SA := fun b e S => (a b e S).bind fun xs e S => if xs.length ≤ line then .ok xs e S else .stuck
/-- a new list, as a tree -/
def frzM (a : SA) : SE := fun b e S => (a b e S).bind fun xs e S => .ok (.lst xs) e S
/-- a new list, laid in the store (own: of the frame) -/
def ownM (own : Bool) (a : SA) : SE := fun b e S => (a b e S).bind fun xs e S => .ok (.ref S.length) e (S ++ [.lst own xs])
def tupM (a : SA) : SE := fun b e S => (a b e S).bind fun xs e S => if xs.length ≤ line then .ok (.tup xs) e S else .stuck
def R.out (r : R D) (e : Env) : R D := match r with
  | .ok d _ S => .ok d e S
  | .exc c fs _ S => .exc c fs e S
  | .stuck => .stuck
@[simp] theorem R.out_ok (d : D) (e e' : Env) (S : Sto) : (R.ok d e' S).out e = .ok d e S := rfl
@[simp] theorem R.out_exc (c : String) (fs : List (String × D)) (e e' : Env) (S : Sto) : (R.exc c fs e' S).out e = .exc c fs e S := rfl
@[simp] theorem R.out_stuck (e : Env) : (R.stuck : R D).out e = .stuck := rfl
def callM (m : SF) (k : Nat) (a : SA) : SE := fun b e S => (a b e S).bind fun xs e S => if xs.length = k then (m xs S).out e else .stuck

/-! ### tests -/
def truthD : D → Option Bool
  | .non => some false
  | .bl b => some b
  | .int i => some (i != 0)
  | .str s => if s.length ≤ line then some (s.length != 0) else none
  | .byt s => if s.length ≤ line then some (s.length != 0) else none
  | .lst xs => some (!xs.isEmpty)
  | .tup xs => some (!xs.isEmpty)
  | _ => none
def truth (S : Sto) (d : D) : Option Bool := truthD (deref S d)
def tstM (a : SE) : ST := fun b e S => (a b e S).bind fun x e S => R.opt (truth S x) e S
/-- a comparison of values -/
def cmpT (f : Sto → D → D → Option Bool) (a c : SE) : ST := fun b e S => (a b e S).bind fun x e S => (c b e S).bind fun y e S => R.opt (f S x y) e S
/-- a op b op' c -/
def chnT (f f' : Sto → D → D → Option Bool) (a c d : SE) : ST := fun b e S => (a b e S).bind fun x e S => (c b e S).bind fun y e S => (R.opt (f S x y) e S).bind fun k e S =>
  if k = true then (d b e S).bind fun z e S => R.opt (f' S y z) e S else .ok false e S
def notT (t : ST) : ST := fun b e S => (t b e S).bind fun k e S => .ok (!k) e S
def andT (t u : ST) : ST := fun b e S => (t b e S).bind fun k e S => if k = true then u b e S else .ok false e S
def orT (t u : ST) : ST := fun b e S => (t b e S).bind fun k e S => if k = true then .ok true e S else u b e S
def ifE (t : ST) (x y : SE) : SE := fun b e S => (t b e S).bind fun k e S => if k = true then x b e S else y b e S
/-- a test as a value (its answer is a bool) -/
def boolM (t : ST) : SE := fun b e S => (t b e S).bind fun k e S => .ok (.bl k) e S

/-! ### statements -/
def nxM : SS := fun _ e S => .ok .nx e S
def seqM (s t : SS) : SS := fun b e S => (s b e S).bind fun f e S => match f with
  | .nx => t b e S
  | f => .ok f e S
def exprM (a : SE) : SS := fun b e S => (a b e S).bind fun _ e S => .ok .nx e S
def retM (a : SE) : SS := fun b e S => (a b e S).bind fun d e S => .ok (.ret d) e S
def retN : SS := fun _ e S => .ok (.ret .non) e S
def brkM : SS := fun _ e S => .ok .bk e S
def cntM : SS := fun _ e S => .ok .ct e S
def ifM (t : ST) (x y : SS) : SS := fun b e S => (t b e S).bind fun k e S => if k = true then x b e S else y b e S
/-- targets -/
def gnM (i : Nat) : SG := fun _ d e S => if i < e.length then .ok () (e.set i (some d)) S else .stuck
def gsNil : Nat → List D → Env → Sto → R Unit := fun _ ds e S => match ds with
  | [] => .ok () e S
  | _ => .stuck
def gsCons (g : SG) (r : Nat → List D → Env → Sto → R Unit) : Nat → List D → Env → Sto → R Unit := fun b ds e S => match ds with
  | d :: ds => (g b d e S).bind fun _ e S => r b ds e S
  | [] => .stuck
/-- a, b = a tuple -/
def gtM (n : Nat) (gs : Nat → List D → Env → Sto → R Unit) : SG := fun b d e S => match d with
  | .tup xs => if xs.length = n then gs b xs e S else .stuck
  | _ => .stuck
def asgM (a : SE) (g : SG) : SS := fun b e S => (a b e S).bind fun d e S => (g b d e S).bind fun _ e S => .ok .nx e S

/-- may d be written into the object i, the frame's base being b -/
def mayPut (b i : Nat) (d : D) : Bool := decide (b ≤ i) || d.lim 0

/-- the items of a list or a tuple -/
def itemsM (a : SE) : SA := fun b e S => (a b e S).bind fun d e S => match d with
  | .lst xs => .ok xs e S
  | .frz xs => .ok xs e S
  | .tup xs => .ok xs e S
  | _ => .stuck
def rngI (lo n : Int) : Option (List D) := if (-(2 ^ 62) ≤ lo ∧ lo < 2 ^ 62) ∧ -(2 ^ 62) ≤ n ∧ n < 2 ^ 62 then some ((List.range (n - lo).toNat).map fun (i : Nat) => .int (lo + (i : Int))) else none
def rng1 (a : SE) : SA := fun b e S => (a b e S).bind fun d e S => match d with
  | .int n => R.opt (rngI 0 n) e S
  | _ => .stuck
def rng2 (a c : SE) : SA := fun b e S => (a b e S).bind fun d e S => (c b e S).bind fun d' e S => match d, d' with
  | .int lo, .int n => R.opt (rngI lo n) e S
  | _, _ => .stuck

/-! ### objects -/
def classOf (S : Sto) : D → Option (String × List (String × D))
  | .ins c fs => some (c, fs)
  | .ref i => match S[i]? with
    | some (.ins c fs) => some (c, fs)
    | _ => none
  | _ => none
@[simp] theorem classOf_ins (S : Sto) (c : String) (fs : List (String × D)) : classOf S (.ins c fs) = some (c, fs) := rfl
/-- o.name(..) of an instance: tbl tells each class's method and how many arguments it takes -/
def methM (name : String) (tbl : List (String × Nat × SF)) (o : SE) (a : SA) : SE := fun b e S => (o b e S).bind fun d e S => match classOf S d with
  | some (c, fs) => (match tbl.lookup c, fs.lookup name with
    | some (k, m), none => (a b e S).bind fun xs e S => if xs.length = k then (m (d :: xs) S).out e else .stuck
    | _, _ => .stuck)
  | none => .stuck
/-- o.f: a field (none) or a property -/
def attrM (f : String) (tbl : List (String × Option SF)) (o : SE) : SE := fun b e S => (o b e S).bind fun d e S => match classOf S d with
  | some (c, fs) => (match tbl.lookup c with
    | some none => R.opt (fs.lookup f) e S
    | some (some m) => (match m [d] S with
      | .ok d' _ S' => .ok d' e S'
      | _ => .stuck)
    | none => .stuck)
  | none => .stuck
/-- a field written: new ones behind -/
def putD (f : String) (d : D) : List (String × D) → List (String × D)
  | [] => [(f, d)]
  | p :: r => if p.1 = f then (f, d) :: r else p :: putD f d r
/-- o.f = v; cls: the classes that have f as no attribute of their own -/
def setF (f : String) (cls : List String) (o v : SE) : SS := fun b e S => (v b e S).bind fun d e S => (o b e S).bind fun x e S => match x with
  | .ref i => (match S[i]? with
    | some (.ins c fs) => if cls.elem c = true ∧ fs.length < 1000 ∧ mayPut b i d = true then .ok .nx e (S.set i (.ins c (putD f d fs))) else .stuck
    | _ => .stuck)
  | _ => .stuck
/-- o.f += v -/
def augF (f : String) (cls : List String) (op : D → D → Option D) (o v : SE) : SS := fun b e S => (o b e S).bind fun x e S => match x with
  | .ref i => (match S[i]? with
    | some (.ins c fs) => (match fs.lookup f with
      | some y => if cls.elem c = true then (v b e S).bind fun d e S => (match op y d, S[i]? with
        | some z, some (.ins c' fs') => if fs'.length < 1000 ∧ mayPut b i z = true ∧ c' = c then .ok .nx e (S.set i (.ins c' (putD f z fs'))) else .stuck
        | _, _ => .stuck) else .stuck
      | none => .stuck)
    | _ => .stuck)
  | _ => .stuck
/-- what the fields hold, own lists as trees -/
def frostD (n : Nat) (S : Sto) : D → D
  | .ref j => if n ≤ j then (match S[j]? with
    | some (.lst _ xs) => .lst xs
    | _ => .ref j) else .ref j
  | d => d
def frostF (n : Nat) : List (String × D) → Sto → List (String × D) × Sto
  | [], S => ([], S)
  | p :: r, S =>
    let S' := match p.2 with
      | .ref j => if n ≤ j then (match S[j]? with
        | some (.lst _ _) => S.set j .dead
        | _ => S) else S
      | _ => S
    ((p.1, frostD n S p.2) :: (frostF n r S').1, (frostF n r S').2)
/-- C(..): a new instance; frozen: it stands as it is when __init__ is through -/
def newM (c : String) (k : Nat) (frozen : Bool) (init : SF) (a : SA) : SE := fun b e S => (a b e S).bind fun xs e S => if xs.length = k then (match init (.ref S.length :: xs) (S ++ [.ins c []]) with
  | .ok .non _ S' => if frozen = true then (match S'[S.length]? with
      | some (.ins c' fs) => if limF S.length (frostF S.length fs S').1 = true then .ok (.ins c' (frostF S.length fs S').1) e (S'.take S.length) else .stuck
      | _ => .stuck) else .ok (.ref S.length) e S'
  | .exc c' fs _ S' => if limF 0 fs = true then .exc c' fs e (S'.take S.length) else .stuck
  | _ => .stuck) else .stuck
/-- an __init__: its object is the last of the store -/
def iniM (n : Nat) (body : SS) : SF := fun ds S => match body (S.length - 1) (ds.map some ++ List.replicate (n - ds.length) none) S with
  | .ok .nx _ S' => .ok .non [] S'
  | .ok (.ret .non) _ S' => .ok .non [] S'
  | .exc c fs _ S' => if limF 0 fs = true then .exc c fs [] S' else .stuck
  | _ => .stuck

/-! ### lists of the store -/
/-- o.append(v), o.extend(v) .. : a list of the store turned (what it is then, what is new in it); the answer None -/
def lmetM (f : Sto → List D → List D → Option (List D × List D)) (o : SE) (a : SA) : SE := fun b e S => (o b e S).bind fun x e S => match x with
  | .ref i => (match S[i]? with
    | some (.lst _ _) => (a b e S).bind fun ys e S => (match S[i]? with
      | some (.lst w xs) => (match f S xs ys with
        | some (zs, ws) => if decide (b ≤ i) || limL 0 ws then .ok .non e (S.set i (.lst w zs)) else .stuck
        | none => .stuck)
      | _ => .stuck)
    | _ => .stuck)
  | _ => .stuck
def appL : Sto → List D → List D → Option (List D × List D) := fun _ xs ys => match ys with
  | [y] => if xs.length < line then some (xs ++ [y], [y]) else none
  | _ => none
def extL : Sto → List D → List D → Option (List D × List D) := fun S xs ys => match ys with
  | [y] => (match deref S y with
    | .lst zs => if xs.length + zs.length ≤ line then some (xs ++ zs, zs) else none
    | _ => none)
  | _ => none
def clrL : Sto → List D → List D → Option (List D × List D) := fun _ _ ys => match ys with
  | [] => some ([], [])
  | _ => none
def revL : Sto → List D → List D → Option (List D × List D) := fun _ xs ys => match ys with
  | [] => some (xs.reverse, [])
  | _ => none
/-- the place that an index means -/
def ixD (n : Nat) (i : Int) : Option Nat := if 0 ≤ i then (if i < n then some i.toNat else none) else if -(n : Int) ≤ i then some (i + n).toNat else none
/-- o[i] = .. -/
def gsM (o i : SE) : SG := fun b d e S => (o b e S).bind fun x e S => (i b e S).bind fun y e S => match x, y with
  | .ref k, .int j => (match S[k]? with
    | some (.lst w xs) => (match ixD xs.length j with
      | some p => if mayPut b k d = true then .ok () e (S.set k (.lst w (xs.set p d))) else .stuck
      | none => .stuck)
    | _ => .stuck)
  | _, _ => .stuck
/-- o[i] += v -/
def augS (op : D → D → Option D) (o i v : SE) : SS := fun b e S => (o b e S).bind fun x e S => (i b e S).bind fun y e S => match x, y with
  | .ref k, .int j => (match S[k]? with
    | some (.lst _ xs) => (match (ixD xs.length j).bind fun p => xs[p]? with
      | some c => (v b e S).bind fun d e S => (match op c d, S[k]? with
        | some z, some (.lst w ys) => (match ixD ys.length j with
          | some p => if mayPut b k z = true then .ok .nx e (S.set k (.lst w (ys.set p z))) else .stuck
          | none => .stuck)
        | _, _ => .stuck)
      | none => .stuck)
    | _ => .stuck)
  | _, _ => .stuck
/-- x += v of a name -/
def augN (i : Nat) (op : Sto → D → D → Option D) (v : SE) : SS := fun b e S => match e[i]? with
  | some (some x) => (v b e S).bind fun d e S => (R.opt (op S x d) e S).bind fun z e S => if i < e.length then .ok .nx (e.set i (some z)) S else .stuck
  | _ => .stuck

/-! ### loops -/
def loopM (g : SG) (body : SS) (b : Nat) : List D → Env → Sto → R Fl
  | [], e, S => .ok .nx e S
  | d :: ds, e, S => (g b d e S).bind fun _ e S => (body b e S).bind fun f e S => match f with
    | .nx => loopM g body b ds e S
    | .ct => loopM g body b ds e S
    | .bk => .ok .nx e S
    | .ret d => .ok (.ret d) e S
/-- for: the items are told ahead -/
def forM (it : SA) (g : SG) (body : SS) : SS := fun b e S => (it b e S).bind fun xs e S => loopM g body b xs e S

def whileN (t : ST) (body : SS) (b : Nat) : Nat → Env → Sto → R Fl
  | 0, _, _ => .stuck
  | n + 1, e, S => (t b e S).bind fun k e S => if k = true then (body b e S).bind fun f e S => (match f with
    | .nx => whileN t body b n e S
    | .ct => whileN t body b n e S
    | .bk => .ok .nx e S
    | .ret d => .ok (.ret d) e S) else .ok .nx e S
open Classical in
/-- while: as many turns as are wanted -/
noncomputable def whileM (t : ST) (body : SS) : SS := fun b e S => if h : ∃ n, whileN t body b n e S ≠ .stuck then whileN t body b (Classical.choose h) e S else .stuck

theorem R.bind_ne {α β : Type} {r : R α} {k : α → Env → Sto → R β} (h : r.bind k ≠ .stuck) : r ≠ .stuck := by
  intro e; rw [e] at h; exact h rfl
theorem whileN_mono {t : ST} {body : SS} {b : Nat} : ∀ {n : Nat} {e : Env} {S : Sto}, whileN t body b n e S ≠ .stuck → whileN t body b (n + 1) e S = whileN t body b n e S
  | 0, e, S, h => absurd rfl h
  | n + 1, e, S, h => by
    have h' := h
    rw [whileN] at h' ⊢
    conv => rhs; rw [whileN]
    cases ht : t b e S with
    | stuck => rfl
    | exc c fs e1 S1 => rfl
    | ok k e1 S1 =>
      rw [ht] at h'
      simp only [R.bind_ok] at h' ⊢
      cases k with
      | false => rfl
      | true =>
        simp only [if_true] at h' ⊢
        cases hb : body b e1 S1 with
        | stuck => rfl
        | exc c fs e2 S2 => rfl
        | ok f e2 S2 =>
          rw [hb] at h'
          simp only [R.bind_ok] at h' ⊢
          cases f with
          | nx => exact whileN_mono h'
          | ct => exact whileN_mono h'
          | bk => rfl
          | ret d => rfl
theorem whileN_le {t : ST} {body : SS} {b n : Nat} {e : Env} {S : Sto} (h : whileN t body b n e S ≠ .stuck) : ∀ k, whileN t body b (n + k) e S = whileN t body b n e S
  | 0 => rfl
  | k + 1 => by
    have ih := whileN_le h k
    rw [← ih]
    exact whileN_mono (n := n + k) (fun q => h (ih.symm.trans q))
theorem whileM_of {t : ST} {body : SS} {b n : Nat} {e : Env} {S : Sto} (h : whileN t body b n e S ≠ .stuck) : whileM t body b e S = whileN t body b n e S := by
  have hx : ∃ n, whileN t body b n e S ≠ .stuck := ⟨n, h⟩
  unfold whileM
  rw [dif_pos hx]
  have hc := Classical.choose_spec hx
  rcases Nat.le_total n (Classical.choose hx) with l | l
  · obtain ⟨k, e1⟩ := Nat.exists_eq_add_of_le l
    rw [e1, whileN_le h]
  · obtain ⟨k, e1⟩ := Nat.exists_eq_add_of_le l
    have := whileN_le hc k
    rw [← e1] at this
    exact this.symm
theorem whileM_none {t : ST} {body : SS} {b : Nat} {e : Env} {S : Sto} (h : ∀ n, whileN t body b n e S = .stuck) : whileM t body b e S = .stuck := by
  unfold whileM
  rw [dif_neg (fun ⟨n, hn⟩ => hn (h n))]
/-- one turn of a while -/
theorem whileM_eq (t : ST) (body : SS) (b : Nat) (e : Env) (S : Sto) : whileM t body b e S = (t b e S).bind fun k e S => if k = true then (body b e S).bind fun f e S => (match f with
    | .nx => whileM t body b e S
    | .ct => whileM t body b e S
    | .bk => .ok .nx e S
    | .ret d => .ok (.ret d) e S) else .ok .nx e S := by
  have one : ∀ n, whileN t body b (n + 1) e S = (t b e S).bind fun k e S => if k = true then (body b e S).bind fun f e S => (match f with
    | .nx => whileN t body b n e S
    | .ct => whileN t body b n e S
    | .bk => .ok .nx e S
    | .ret d => .ok (.ret d) e S) else .ok .nx e S := fun n => by rw [whileN]
  cases ht : t b e S with
  | stuck =>
    refine whileM_none fun n => ?_
    cases n with
    | zero => rfl
    | succ n => rw [one, ht]; rfl
  | exc c fs e1 S1 => rw [whileM_of (n := 1) (by rw [one, ht]; exact fun q => by cases q), one, ht]; rfl
  | ok k e1 S1 =>
    cases k with
    | false => rw [whileM_of (n := 1) (by rw [one, ht]; exact fun q => by cases q), one, ht]; rfl
    | true =>
      cases hb : body b e1 S1 with
      | stuck =>
        have z : ∀ n, whileN t body b n e S = .stuck := fun n => by
          cases n with
          | zero => rfl
          | succ n => rw [one, ht]; simp only [R.bind_ok, if_true, hb]; rfl
        rw [whileM_none z]
        simp only [R.bind_ok, if_true, hb]; rfl
      | exc c fs e2 S2 =>
        rw [whileM_of (n := 1) (by rw [one, ht]; simp only [R.bind_ok, if_true, hb]; exact fun q => by cases q), one, ht]
        simp only [R.bind_ok, if_true, hb]; rfl
      | ok f e2 S2 =>
        have go : ∀ {r : Nat → R Fl} {q : R Fl}, (∀ n, whileN t body b (n + 1) e S = r n) → (∀ n, r n = whileN t body b n e2 S2) → q = whileM t body b e2 S2 → whileM t body b e S = q := by
          intro r q h1 h2 h3
          rw [h3]
          by_cases hx : ∃ n, whileN t body b n e2 S2 ≠ .stuck
          · obtain ⟨n, hn⟩ := hx
            rw [whileM_of hn, whileM_of (n := n + 1) (by rw [h1, h2]; exact hn), h1, h2]
          · rw [whileM_none (e := e2) fun n => Classical.byContradiction fun hn => hx ⟨n, hn⟩]
            refine whileM_none fun n => ?_
            cases n with
            | zero => rfl
            | succ n =>
              rw [h1, h2]
              exact Classical.byContradiction fun hn => hx ⟨n, hn⟩
        cases f with
        | nx => exact go (r := fun n => whileN t body b n e2 S2) (fun n => by rw [one, ht]; simp only [R.bind_ok, if_true, hb]) (fun _ => rfl) (by simp only [R.bind_ok, if_true, hb])
        | ct => exact go (r := fun n => whileN t body b n e2 S2) (fun n => by rw [one, ht]; simp only [R.bind_ok, if_true, hb]) (fun _ => rfl) (by simp only [R.bind_ok, if_true, hb])
        | bk =>
          rw [whileM_of (n := 1) (by rw [one, ht]; simp only [R.bind_ok, if_true, hb]; exact fun q => by cases q), one, ht]
          simp only [R.bind_ok, if_true, hb]
        | ret d =>
          rw [whileM_of (n := 1) (by rw [one, ht]; simp only [R.bind_ok, if_true, hb]; exact fun q => by cases q), one, ht]
          simp only [R.bind_ok, if_true, hb]

/-! ### defs -/
/-- a def: its arguments in the first slots. keep: what it has laid in the store stays -/
def fnM (n : Nat) (keep : Bool) (body : SS) : SF := fun ds S => match body S.length (ds.map some ++ List.replicate (n - ds.length) none) S with
  | .ok f _ S' => (match f with
    | .nx => .ok .non [] (if keep = true then S' else S'.take S.length)
    | .ret d => if keep = true then .ok d [] S' else if d.lim S.length = true then .ok d [] (S'.take S.length) else .stuck
    | _ => .stuck)
  | .exc c fs _ S' => if limF 0 fs = true then .exc c fs [] (S'.take S.length) else .stuck
  | .stuck => .stuck

/-! ### operations on values -/
def two64 : Int := 18446744073709551616
def addS (S : Sto) (x y : D) : Option D := match deref S x, deref S y with
  | .int i, .int j => some (.int (i + j))
  | .str a, .str b => if a.length + b.length ≤ line then some (.str (a ++ b)) else none
  | .byt a, .byt b => if a.length + b.length ≤ line then some (.byt (a ++ b)) else none
  | .lst a, .lst b => if a.length + b.length ≤ line then some (.lst (a ++ b)) else none
  | _, _ => none
def subS (_ : Sto) (x y : D) : Option D := match x, y with
  | .int i, .int j => some (.int (i - j))
  | _, _ => none
def mulOk (i j : Int) : Bool := decide ((-two64 < i ∧ i < two64) ∨ (-two64 < j ∧ j < two64))
def mulS (S : Sto) (x y : D) : Option D := match deref S x, y with
  | .int i, .int j => if mulOk i j = true then some (.int (i * j)) else none
  | .lst a, .int k => if (-9223372036854775808 ≤ k ∧ k < 9223372036854775808) ∧ a.length * k.toNat ≤ line then some (.lst (List.replicate k.toNat a).flatten) else none
  | _, _ => none
def fdivS (_ : Sto) (x y : D) : Option D := match x, y with
  | .int i, .int j => if 0 < j ∧ j < two64 then some (.int (i / j)) else none
  | _, _ => none
def modS (_ : Sto) (x y : D) : Option D := match x, y with
  | .int i, .int j => if 0 < j then some (.int (i % j)) else none
  | _, _ => none
def powS (_ : Sto) (x y : D) : Option D := match x, y with
  | .int i, .int j => if (0 ≤ j ∧ j ≤ 1000000) ∧ (-two64 < i ∧ i < two64) then some (.int (i ^ j.toNat)) else none
  | _, _ => none
def negS (_ : Sto) (x : D) : Option D := match x with
  | .int i => some (.int (-i))
  | _ => none
def ltS (_ : Sto) (x y : D) : Option Bool := match x, y with
  | .int i, .int j => some (decide (i < j))
  | _, _ => none
def leS (_ : Sto) (x y : D) : Option Bool := match x, y with
  | .int i, .int j => some (decide (i ≤ j))
  | _, _ => none
def gtS (_ : Sto) (x y : D) : Option Bool := match x, y with
  | .int i, .int j => some (decide (j < i))
  | _, _ => none
def geS (_ : Sto) (x y : D) : Option Bool := match x, y with
  | .int i, .int j => some (decide (j ≤ i))
  | _, _ => none
mutual
/-- the same tree, empty dicts in it too, at most n deep -/
def sameD : Nat → D → D → Bool
  | _, .non, .non => true
  | _, .bl a, .bl b => a == b
  | _, .int i, .int j => i == j
  | _, .str x, .str y => x == y
  | _, .byt x, .byt y => x == y
  | _, .edi, .edi => true
  | n, .lst xs, .lst ys => decide (0 < n) && sameL (n - 1) xs ys
  | n, .tup xs, .tup ys => decide (0 < n) && sameL (n - 1) xs ys
  | _, _, _ => false
def sameL : Nat → List D → List D → Bool
  | _, [], [] => true
  | n, x :: xs, y :: ys => sameD n x y && sameL n xs ys
  | _, _, _ => false
end
/-- nothing flat -/
def notFlat : D → Bool
  | .lst _ => true | .tup _ => true | .edi => true
  | _ => false
def eqX (x y : D) : Option Bool := if notFlat x && sameD 16 x y then some true else none
def eqD (x y : D) : Option Bool := if D.dataN 16 x && D.dataN 16 y then some (x.eqv y) else match x, y with
  | .byt a, .byt b => some (decide (a = b))
  | _, _ => eqX x y
def eqS (S : Sto) (x y : D) : Option Bool := eqD (deref S x) (deref S y)
def neS (S : Sto) (x y : D) : Option Bool := (eqS S x y).map (!·)
def isNoneD : D → Bool
  | .non => true
  | _ => false
def isGl : D → Bool
  | .gl _ => true
  | _ => false
/-- x is None (x no global) -/
def isS (_ : Sto) (x y : D) : Option Bool := match y with
  | .non => if isGl x then none else some (isNoneD x)
  | _ => none
def notS (_ : Sto) (x y : D) : Option Bool := match y with
  | .non => if isGl x then none else some (!isNoneD x)
  | _ => none
/-- o[i] -/
def idxS (S : Sto) (x y : D) : Option D := match y with
  | .int j => (match deref S x with
    | .lst xs => (ixD xs.length j).bind fun p => xs[p]?
    | .frz xs => (ixD xs.length j).bind fun p => xs[p]?
    | .tup xs => (ixD xs.length j).bind fun p => xs[p]?
    | .byt s => if s.length ≤ line ∧ 0 ≤ j ∧ j < s.length then (s[j.toNat]?).map fun (c : Nat) => .int (c : Int) else none
    | .str s => if s.length ≤ line then ((ixD s.length j).bind fun p => s[p]?).map fun c => .str [c] else none
    | _ => none)
  | _ => none
def lenS (S : Sto) (ds : List D) : Option D := match ds with
  | [x] => (match deref S x with
    | .lst xs => some (.int (xs.length : Int))
    | .frz xs => some (.int (xs.length : Int))
    | .tup xs => some (.int (xs.length : Int))
    | .byt s => if s.length ≤ line then some (.int (s.length : Int)) else none
    | .str s => if s.length ≤ line then some (.int (s.length : Int)) else none
    | _ => none)
  | _ => none
def intS (_ : Sto) (ds : List D) : Option D := match ds with
  | [.int i] => some (.int i)
  | [.bl k] => some (.int (if k then 1 else 0))
  | _ => none
def min2S (_ : Sto) (ds : List D) : Option D := match ds with
  | [.int i, .int j] => some (.int (if j < i then j else i))
  | _ => none
def max2S (_ : Sto) (ds : List D) : Option D := match ds with
  | [.int i, .int j] => some (.int (if j > i then j else i))
  | _ => none
/-- the type's name -/
def tyD (S : Sto) (x : D) : Option String := match deref S x with
  | .non => some "NoneType"
  | .bl _ => some "bool"
  | .int _ => some "int"
  | .str _ => some "str"
  | .byt _ => some "bytes"
  | .lst _ => some "list"
  | .frz _ => some "list"
  | .tup _ => some "tuple"
  | .edi => some "dict"
  | _ => none
/-- isinstance: by a table of types' names, or of the classes -/
def isiM (tbl : List (String × Bool)) (a : SE) : ST := fun b e S => (a b e S).bind fun x e S => match classOf S x with
  | some (c, _) => R.opt (tbl.lookup c) e S
  | none => R.opt ((tyD S x).bind fun t => tbl.lookup t) e S
/-- list(x): the items of a list, a tuple, of bytes, new -/
def listA (a : SE) : SA := fun b e S => (a b e S).bind fun x e S => match deref S x with
  | .lst xs => .ok xs e S
  | .frz xs => .ok xs e S
  | .tup xs => .ok xs e S
  | .byt s => if s.length ≤ line then .ok (s.map fun (c : Nat) => .int (c : Int)) e S else .stuck
  | _ => .stuck
/-- where a slice begins, ends -/
def cutI (n d : Nat) : Option Int → Nat
  | none => d
  | some i => if i < 0 then (i + n).toNat else min i.toNat n
def cutL {α : Type} (xs : List α) (lo hi : Option Int) : List α := (xs.drop (cutI xs.length 0 lo)).take (cutI xs.length xs.length hi - cutI xs.length 0 lo)
def partM (a : Option SE) : Nat → Env → Sto → R (Option Int) := fun b e S => match a with
  | none => .ok none e S
  | some a => (a b e S).bind fun x e S => match x with
    | .int i => .ok (some i) e S
    | _ => .stuck
/-- x[lo:hi] of a list: a new list's items -/
def slcA (a : SE) (lo hi : Option SE) : SA := fun b e S => (a b e S).bind fun x e S => (partM lo b e S).bind fun l e S => (partM hi b e S).bind fun u e S => match deref S x with
  | .lst xs => .ok (cutL xs l u) e S
  | .frz xs => .ok (cutL xs l u) e S
  | _ => .stuck
def slcS (S : Sto) (x : D) (l u : Option Int) : Option D := match deref S x with
  | .lst xs => some (.lst (cutL xs l u))
  | .frz xs => some (.lst (cutL xs l u))
  | .str s => if s.length ≤ line then some (.str (cutL s l u)) else none
  | .byt s => if s.length ≤ line then some (.byt (cutL s l u)) else none
  | _ => none
def slcM (a : SE) (lo hi : Option SE) : SE := fun b e S => (a b e S).bind fun x e S => (partM lo b e S).bind fun l e S => (partM hi b e S).bind fun u e S => R.opt (slcS S x l u) e S

/-! ### comprehensions -/
def wipeE (e : Env) : List Nat → Env
  | [] => e
  | v :: vs => (wipeE e vs).set v none
/-- a comprehension's own names back as they stood -/
def restE (vs : List Nat) (e0 e : Env) : Env := match vs with
  | [] => e
  | v :: vs => (restE vs e0 e).set v ((e0[v]?).getD none)
abbrev CT := D → Env → Option Env
def ctN (i : Nat) : CT := fun d e => if i < e.length then some (e.set i (some d)) else none
def ctsNil : List D → Env → Option Env := fun ds e => match ds with
  | [] => some e
  | _ => none
def ctsCons (g : CT) (r : List D → Env → Option Env) : List D → Env → Option Env := fun ds e => match ds with
  | d :: ds => (g d e).bind fun e => r ds e
  | [] => none
def ctT (n : Nat) (r : List D → Env → Option Env) : CT := fun d e => match d with
  | .tup xs => if xs.length = n then r xs e else none
  | _ => none
def yesT : ST := fun _ e S => .ok true e S
/-- the turns of a comprehension; id: the new list in the store -/
def compL (id : Nat) (vs : List Nat) (g : CT) (t : ST) (x : SE) (b : Nat) : List D → Env → Sto → R Unit
  | [], e, S => .ok () e S
  | d :: ds, e, S => match g d e with
    | none => .stuck
    | some e1 => (t b e1 S).bind fun k e2 S2 => if k = true then (x b e2 S2).bind fun y e3 S3 => (match S3[id]? with
        | some (.lst w acc) => if acc.length < line then compL id vs g t x b ds (wipeE e3 vs) (S3.set id (.lst w (acc ++ [y]))) else .stuck
        | _ => .stuck)
      else compL id vs g t x b ds (wipeE e2 vs) S2
def compR (w : Bool) (it : SA) (vs : List Nat) (g : CT) (t : ST) (x : SE) : Nat → Env → Sto → R Nat := fun b e S => (it b e S).bind fun xs e S => match compL S.length vs g t x b xs (wipeE e vs) (S ++ [.lst w []]) with
  | .ok _ e' S' => .ok S.length (restE vs e e') S'
  | _ => .stuck
/-- the new list as a tree -/
def compV (it : SA) (vs : List Nat) (g : CT) (t : ST) (x : SE) : SE := fun b e S => (compR true it vs g t x b e S).bind fun id e S => match S[id]? with
  | some (.lst _ acc) => .ok (.lst acc) e (S.set id .dead)
  | _ => .stuck
/-- the new list in the store -/
def compO (w : Bool) (it : SA) (vs : List Nat) (g : CT) (t : ST) (x : SE) : SE := fun b e S => (compR w it vs g t x b e S).bind fun id e S => .ok (.ref id) e S

/-! ### more words -/
def bandS (_ : Sto) (x y : D) : Option D := match x, y with
  | .int i, .int j => if 0 ≤ i ∧ 0 ≤ j then some (.int ((i.toNat &&& j.toNat : Nat) : Int)) else none
  | _, _ => none
def shrS (_ : Sto) (x y : D) : Option D := match x, y with
  | .int i, .int j => if 0 ≤ j then some (.int (i / 2 ^ j.toNat)) else none
  | _, _ => none
def addI : D → D → Option D
  | .int i, .int j => some (.int (i + j))
  | _, _ => none
def subI : D → D → Option D
  | .int i, .int j => some (.int (i - j))
  | _, _ => none
def isB (_ : Sto) (x y : D) : Option Bool := match x, y with
  | .bl a, .bl b => some (decide (a = b))
  | _, _ => none
def isnB (_ : Sto) (x y : D) : Option Bool := match x, y with
  | .bl a, .bl b => some (!decide (a = b))
  | _, _ => none
/-- a or c, a value -/
def orV (a c : SE) : SE := fun b e S => (a b e S).bind fun x e S => (R.opt (truth S x) e S).bind fun k e S => if k = true then .ok x e S else c b e S
def andV (a c : SE) : SE := fun b e S => (a b e S).bind fun x e S => (R.opt (truth S x) e S).bind fun k e S => if k = true then c b e S else .ok x e S
def tupS (S : Sto) (ds : List D) : Option D := match ds with
  | [x] => (match deref S x with
    | .lst xs => some (.tup xs)
    | .frz xs => some (.tup xs)
    | .tup xs => some (.tup xs)
    | _ => none)
  | _ => none
/-- a, b = a row -/
def gqM (n : Nat) (gs : Nat → List D → Env → Sto → R Unit) : SG := fun b d e S => match deref S d with
  | .tup xs => if xs.length = n then gs b xs e S else .stuck
  | .lst xs => if xs.length = n then gs b xs e S else .stuck
  | .frz xs => if xs.length = n then gs b xs e S else .stuck
  | _ => .stuck
/-- not a, by truth -/
def notV (a : SE) : SE := fun b e S => (a b e S).bind fun x e S => (R.opt (truth S x) e S).bind fun k e S => .ok (.bl (!k)) e S
def ty_bool : List (String × Bool) := [("NoneType", false), ("bool", true), ("int", false), ("str", false), ("bytes", false), ("list", false), ("tuple", false), ("dict", false)]
def ty_int : List (String × Bool) := [("NoneType", false), ("bool", true), ("int", true), ("str", false), ("bytes", false), ("list", false), ("tuple", false), ("dict", false)]
def ty_str : List (String × Bool) := [("NoneType", false), ("bool", false), ("int", false), ("str", true), ("bytes", false), ("list", false), ("tuple", false), ("dict", false)]
def ty_bytes : List (String × Bool) := [("NoneType", false), ("bool", false), ("int", false), ("str", false), ("bytes", true), ("list", false), ("tuple", false), ("dict", false)]
def ty_list : List (String × Bool) := [("NoneType", false), ("bool", false), ("int", false), ("str", false), ("bytes", false), ("list", true), ("tuple", false), ("dict", false)]
def ty_tuple : List (String × Bool) := [("NoneType", false), ("bool", false), ("int", false), ("str", false), ("bytes", false), ("list", false), ("tuple", true), ("dict", false)]
/-- raise C(..), C's __init__ keeping its arguments under the names ks -/
def raiseM (c : String) (ks : List String) (a : SA) : SS := fun b e S => (a b e S).bind fun xs e S => if xs.length = ks.length then .exc c (ks.zip xs).reverse e S else .stuck
/-- try: body; each clause: which classes it takes, its name's slot, its suite by the exception's class and fields -/
abbrev Cl := List (String × Bool) × Option Nat × (String → List (String × D) → SS)
def suiteR (o : Option Nat) (u : SS) : SS := fun b e S => match o with
  | none => (match u b e S with
    | .ok f e' S' => .ok f e' S'
    | _ => .stuck)
  | some i => if i < e.length then (match u b (e.set i none) S with
    | .ok f e' S' => .ok f (e'.set i none) S'
    | _ => .stuck) else .stuck
def catchM (c : String) (fs : List (String × D)) (b : Nat) (e : Env) (S : Sto) : List Cl → R Fl
  | [] => .exc c fs e S
  | (tb, o, u) :: more => match tb.lookup c with
    | some true => suiteR o (u c fs) b e S
    | some false => catchM c fs b e S more
    | none => .stuck
def tryM (body : SS) (cs : List Cl) : SS := fun b e S => match body b e S with
  | .ok f e S => .ok f e S
  | .exc c fs e S => catchM c fs b e S cs
  | .stuck => .stuck
/-- e.f of the caught exception, whose class is c0 -/
def xfM (c : String) (fs : List (String × D)) (c0 f : String) : SE := fun _ e S => if c = c0 then R.opt (fs.lookup f) e S else .stuck
def mulI : D → D → Option D
  | .int i, .int j => if mulOk i j = true then some (.int (i * j)) else none
  | _, _ => none
/-- x += v, no list -/
def augX (i : Nat) (op : D → D → Option D) (v : SE) : SS := fun b e S => match e[i]? with
  | some (some x) => (v b e S).bind fun d e S => (R.opt (op x d) e S).bind fun z e S => if i < e.length then .ok .nx (e.set i (some z)) S else .stuck
  | _ => .stuck
def boolsOf : List D → Option (List Bool)
  | [] => some []
  | .bl b :: r => (boolsOf r).map (b :: ·)
  | _ => none
def allS (S : Sto) (ds : List D) : Option D := match ds with
  | [x] => (match deref S x with
    | .lst xs => (boolsOf xs).map fun bs => .bl (bs.all id)
    | _ => none)
  | _ => none
/-- ints in 0 .. 255 -/
def b8Of : List D → Option (List Nat)
  | [] => some []
  | .int i :: r => if 0 ≤ i ∧ i < 256 then (b8Of r).map (i.toNat :: ·) else none
  | _ => none
def bytS (S : Sto) (ds : List D) : Option D := match ds with
  | [x] => (match deref S x with
    | .lst xs => (b8Of xs).map .byt
    | .frz xs => (b8Of xs).map .byt
    | .tup xs => (b8Of xs).map .byt
    | .byt s => some (.byt s)
    | _ => none)
  | _ => none
def enumFrom_ (n : Nat) : List D → List D
  | [] => []
  | d :: ds => .tup [.int (n : Int), d] :: enumFrom_ (n + 1) ds
/-- the items of enumerate of a list -/
def enumM (a : SE) : SA := fun b e S => (a b e S).bind fun d e S => match d with
  | .lst xs => .ok (enumFrom_ 0 xs) e S
  | .frz xs => .ok (enumFrom_ 0 xs) e S
  | .tup xs => .ok (enumFrom_ 0 xs) e S
  | _ => .stuck
/-- a test that stores a name -/
def walT (i : Nat) (f : Sto → D → D → Option Bool) (a c : SE) : ST := fun b e S => (a b e S).bind fun x e S => if i < e.length then (c b (e.set i (some x)) S).bind fun y e S => R.opt (f S x y) e S else .stuck
def tyt_list_tuple : List (String × Bool) := [("NoneType", false), ("bool", false), ("int", false), ("str", false), ("bytes", false), ("list", true), ("tuple", true), ("dict", false)]
/-- a + c of two lists: the new list's items -/
def addA (a c : SE) : SA := fun b e S => (a b e S).bind fun x e S => (c b e S).bind fun y e S => match deref S x, deref S y with
  | .lst xs, .lst ys => if xs.length + ys.length ≤ line then .ok (xs ++ ys) e S else .stuck
  | _, _ => .stuck
/-! ### bounds of refs -/
theorem limL_get {n : Nat} : ∀ {ds : List D} {i : Nat} {d : D}, limL n ds = true → ds[i]? = some d → d.lim n = true
  | [], i, d, _, e => by simp at e
  | a :: r, 0, d, h, e => by
    rw [limL, Bool.and_eq_true_iff] at h
    have e' : a = d := by simpa using e
    rw [← e']; exact h.1
  | a :: r, i + 1, d, h, e => by
    rw [limL, Bool.and_eq_true_iff] at h
    exact limL_get h.2 (by simpa using e)
theorem limF_get {n : Nat} : ∀ {ds : List (String × D)} {i : Nat} {d : String × D}, limF n ds = true → ds[i]? = some d → d.2.lim n = true
  | [], i, d, _, e => by simp at e
  | a :: r, 0, d, h, e => by
    rw [limF, Bool.and_eq_true_iff] at h
    have e' : a = d := by simpa using e
    rw [← e']; exact h.1
  | a :: r, i + 1, d, h, e => by
    rw [limF, Bool.and_eq_true_iff] at h
    exact limF_get h.2 (by simpa using e)
theorem limL_mono {n m : Nat} (h : n ≤ m) : ∀ (ds : List D), (∀ d ∈ ds, d.lim n = true → d.lim m = true) → limL n ds = true → limL m ds = true := by
  intro ds
  induction ds with
  | nil => intro _ _; rfl
  | cons a r ih =>
    intro k q
    rw [limL, Bool.and_eq_true_iff] at q ⊢
    exact ⟨k a List.mem_cons_self q.1, ih (fun d hd => k d (List.mem_cons_of_mem _ hd)) q.2⟩
mutual
theorem lim_mono {n m : Nat} (h : n ≤ m) : ∀ d : D, d.lim n = true → d.lim m = true
  | .lst xs, q => limL_mono' h xs q
  | .frz xs, q => limL_mono' h xs q
  | .tup xs, q => limL_mono' h xs q
  | .ins _ fs, q => limF_mono' h fs q
  | .exn _ fs, q => limF_mono' h fs q
  | .ref i, q => decide_eq_true (Nat.lt_of_lt_of_le (of_decide_eq_true q) h)
  | .non, _ | .bl _, _ | .int _, _ | .str _, _ | .byt _, _ | .gl _, _ | .ty _, _ | .edi, _ => rfl
theorem limL_mono' {n m : Nat} (h : n ≤ m) : ∀ ds : List D, limL n ds = true → limL m ds = true
  | [], _ => rfl
  | d :: ds, q => by
    rw [limL, Bool.and_eq_true_iff] at q ⊢
    exact ⟨lim_mono h d q.1, limL_mono' h ds q.2⟩
theorem limF_mono' {n m : Nat} (h : n ≤ m) : ∀ ds : List (String × D), limF n ds = true → limF m ds = true
  | [], _ => rfl
  | d :: ds, q => by
    rw [limF, Bool.and_eq_true_iff] at q ⊢
    exact ⟨lim_mono h d.2 q.1, limF_mono' h ds q.2⟩
end
theorem limL_mem {n : Nat} : ∀ {xs : List D}, limL n xs = true ↔ ∀ d ∈ xs, d.lim n = true
  | [] => by simp [limL]
  | x :: xs => by
    rw [limL, Bool.and_eq_true_iff, limL_mem]
    simp
theorem limF_put {f : String} {d : D} {n : Nat} (hd : d.lim n = true) : ∀ {fs : List (String × D)}, limF n fs = true → limF n (putD f d fs) = true
  | [], _ => by rw [putD, limF, hd]; rfl
  | p :: r, h => by
    rw [limF, Bool.and_eq_true_iff] at h
    rw [putD]
    split
    · rw [limF, hd, h.2]; rfl
    · rw [limF, h.1, limF_put hd h.2]; rfl
theorem limL_set {d : D} {n : Nat} (hd : d.lim n = true) : ∀ {xs : List D} {i : Nat}, limL n xs = true → limL n (xs.set i d) = true
  | [], _, _ => rfl
  | x :: r, 0, h => by
    rw [limL, Bool.and_eq_true_iff] at h
    rw [List.set_cons_zero, limL, hd, h.2]; rfl
  | x :: r, i + 1, h => by
    rw [limL, Bool.and_eq_true_iff] at h
    rw [List.set_cons_succ, limL, h.1, limL_set hd h.2]; rfl
theorem limL_app {n : Nat} : ∀ {xs ys : List D}, limL n xs = true → limL n ys = true → limL n (xs ++ ys) = true
  | [], _, _, h => h
  | x :: r, ys, h, h2 => by
    rw [limL, Bool.and_eq_true_iff] at h
    rw [List.cons_append, limL, h.1, limL_app h.2 h2]; rfl
end Mir
end

/-! MirRep -/
section
set_option Elab.async false
set_option linter.all false
set_option maxRecDepth 100000
/-! MirRep: how the trees and the store of MirSem stand in the abstract heap; readings by meanings. -/
namespace Mir
open PySem L2

/-- the ghost: what is frozen, where the store's objects stand, the caught exceptions -/
structure Gh where
  F : Hp
  m : List Addr
  x : Addr → Option (Value × Option Addr)
structure Gh.le (g g' : Gh) : Prop where
  F : ∀ a o, g.F a = some o → g'.F a = some o
  m : ∀ (i : Nat) a, g.m[i]? = some a → g'.m[i]? = some a
  x : ∀ a o, g.x a = some o → g'.x a = some o
theorem Gh.le.refl (g : Gh) : g.le g := ⟨fun _ _ h => h, fun _ _ h => h, fun _ _ h => h⟩
theorem Gh.le.trans {g g1 g2 : Gh} (a : g.le g1) (b : g1.le g2) : g.le g2 := ⟨fun _ _ h => b.F _ _ (a.F _ _ h), fun _ _ h => b.m _ _ (a.m _ _ h), fun _ _ h => b.x _ _ (a.x _ _ h)⟩

def mkS (s : List Nat) : Str := ⟨s.toArray⟩
def mkB (b : List Nat) : Array UInt8 := (b.map UInt8.ofNat).toArray
abbrev nm (s : String) : Str := Str.ofString s
theorem nm_cps (s : String) : nm s = mkS (cps s) := by
  show Str.mk _ = Str.mk _
  rw [cpsOfBytes_string]; rfl
theorem nm_inj {s t : String} (h : nm s = nm t) : s = t := by
  rw [nm_cps, nm_cps] at h
  have h1 : (cps s).toArray = (cps t).toArray := congrArg Str.cps h
  have h2 : cps s = cps t := by simpa using h1
  have h3 : s.toList = t.toList := by
    have inj : ∀ l l' : List Char, l.map Char.toNat = l'.map Char.toNat → l = l' := by
      intro l
      induction l with
      | nil => intro l' e; cases l' with
        | nil => rfl
        | cons c r => cases e
      | cons c r ih => intro l' e; cases l' with
        | nil => cases e
        | cons c' r' =>
          injection e with e1 e2
          rw [ih r' e2, Char.toNat_inj.mp e1]
    exact inj _ _ h2
  rw [← String.ofList_toList (s := s), h3, String.ofList_toList]

section
variable (K : PySem.W.Frag) (mg : Str → Option Value)
inductive Rep (g : Gh) : D → V → Prop
  | non : Rep g .non .non
  | bl {b : Bool} : Rep g (.bl b) (.bl b)
  | int {i : Int} : Rep g (.int i) (.int i)
  | str {s : List Nat} : Rep g (.str s) (.str (mkS s))
  | byt {b : List Nat} : (∀ x ∈ b, x < 256) → Rep g (.byt b) (.byt (mkB b))
  | lst {a : Addr} {vs : List V} {ds : List D} : g.F a = some (.lst vs) → vs.length = ds.length → (∀ (i : Nat) d v, ds[i]? = some d → vs[i]? = some v → Rep g d v) → Rep g (.lst ds) (.ref a)
  | frz {a : Addr} {vs : List V} {ds : List D} : SqL K g.F a vs → vs.length = ds.length → (∀ (i : Nat) d v, ds[i]? = some d → vs[i]? = some v → Rep g d v) → Rep g (.frz ds) (.ref a)
  | tup {a : Addr} {vs : List V} {ds : List D} : SqT K g.F a vs → vs.length = ds.length → (∀ (i : Nat) d v, ds[i]? = some d → vs[i]? = some v → Rep g d v) → Rep g (.tup ds) (.ref a)
  | ins {a C dx : Addr} {c : String} {fs : List (String × D)} {fv : List (Str × V)} : mg (nm c) = some (.ref C) → g.F a = some (.ins C dx fv) → fv.length = fs.length →
      (∀ (i : Nat) p q, fs[i]? = some p → fv[i]? = some q → q.1 = nm p.1) → (∀ (i : Nat) p q, fs[i]? = some p → fv[i]? = some q → Rep g p.2 q.2) → Rep g (.ins c fs) (.ref a)
  | exn {a C dd : Addr} {c : String} {fs : List (String × D)} {fv : List (Str × V)} : g.x a = some (.ref C, some dd) → mg (nm c) = some (.ref C) → g.F dd = some (.xd fv) → fv.length = fs.length →
      (∀ (i : Nat) p q, fs[i]? = some p → fv[i]? = some q → q.1 = nm p.1) → (∀ (i : Nat) p q, fs[i]? = some p → fv[i]? = some q → Rep g p.2 q.2) → Rep g (.exn c fs) (.ref a)
  | exn0 {a C : Addr} {c : String} : g.x a = some (.ref C, none) → mg (nm c) = some (.ref C) → Rep g (.exn c []) (.ref a)
  | gl {x : String} {v : V} {u : Value} : mg (nm x) = some u → RelV v u → Rep g (.gl x) v
  | ty {x : String} : Rep g (.ty x) (.ty x)
  | edi {a : Addr} : g.F a = some (.dK []) → Rep g .edi (.ref a)
  | ref {i : Nat} {a : Addr} : g.m[i]? = some a → Rep g (.ref i) (.ref a)
/-- item by item -/
structure Reps (g : Gh) (ds : List D) (vs : List V) : Prop where
  len : vs.length = ds.length
  at_ : ∀ (i : Nat) d v, ds[i]? = some d → vs[i]? = some v → Rep K mg g d v
structure RepF (g : Gh) (fs : List (String × D)) (fv : List (Str × V)) : Prop where
  len : fv.length = fs.length
  key : ∀ (i : Nat) p q, fs[i]? = some p → fv[i]? = some q → q.1 = nm p.1
  at_ : ∀ (i : Nat) p q, fs[i]? = some p → fv[i]? = some q → Rep K mg g p.2 q.2
/-- an exception of the class c with these fields: its class and its dict -/
def XRep (g : Gh) (c : String) (fs : List (String × D)) (cls : Value) (d : Option Addr) : Prop :=
  ∃ C : Addr, mg (nm c) = some (.ref C) ∧ cls = .ref C ∧ ((d = none ∧ fs = []) ∨ ∃ dd fv, d = some dd ∧ g.F dd = some (.xd fv) ∧ RepF K mg g fs fv)
end

section
variable {K : PySem.W.Frag} {mg : Str → Option Value} {g g' : Gh}
theorem ex_SqL {F F' : Hp} {a : Addr} {vs : List V} (e : ∀ a o, F a = some o → F' a = some o) (h : SqL K F a vs) : SqL K F' a vs := by
  rcases h with (h | ⟨o, h⟩) | h
  · exact .inl (.inl (e _ _ h))
  · exact .inl (.inr ⟨o, e _ _ h⟩)
  · exact .inr h
theorem ex_SqT {F F' : Hp} {a : Addr} {vs : List V} (e : ∀ a o, F a = some o → F' a = some o) (h : SqT K F a vs) : SqT K F' a vs := by
  rcases h with (h | ⟨o, h⟩) | h
  · exact .inl (.inl (e _ _ h))
  · exact .inl (.inr ⟨o, e _ _ h⟩)
  · exact .inr h
theorem Rep.mono (l : g.le g') {d : D} {v : V} (h : Rep K mg g d v) : Rep K mg g' d v := by
  induction h with
  | non => exact .non
  | bl => exact .bl
  | int => exact .int
  | str => exact .str
  | byt h => exact .byt h
  | lst h n _ ih => exact .lst (l.F _ _ h) n ih
  | frz h n _ ih => exact .frz (ex_SqL l.F h) n ih
  | tup h n _ ih => exact .tup (ex_SqT l.F h) n ih
  | ins hm h n k _ ih => exact .ins hm (l.F _ _ h) n k ih
  | exn hx hm h n k _ ih => exact .exn (l.x _ _ hx) hm (l.F _ _ h) n k ih
  | exn0 hx hm => exact .exn0 (l.x _ _ hx) hm
  | gl hm r => exact .gl hm r
  | ty => exact .ty
  | edi h => exact .edi (l.F _ _ h)
  | ref h => exact .ref (l.m _ _ h)
theorem Reps.mono (l : g.le g') {ds : List D} {vs : List V} (h : Reps K mg g ds vs) : Reps K mg g' ds vs := ⟨h.len, fun i d v a b => (h.at_ i d v a b).mono l⟩
theorem RepF.mono (l : g.le g') {fs : List (String × D)} {fv : List (Str × V)} (h : RepF K mg g fs fv) : RepF K mg g' fs fv := ⟨h.len, h.key, fun i d v a b => (h.at_ i d v a b).mono l⟩
theorem XRep.mono (l : g.le g') {c : String} {fs : List (String × D)} {cls : Value} {d : Option Addr} (h : XRep K mg g c fs cls d) : XRep K mg g' c fs cls d := by
  obtain ⟨C, h1, h2, h3 | ⟨dd, fv, h3, h4, h5⟩⟩ := h
  · exact ⟨C, h1, h2, .inl h3⟩
  · exact ⟨C, h1, h2, .inr ⟨dd, fv, h3, l.F _ _ h4, h5.mono l⟩⟩
/-- the store cut off above n -/
theorem Rep.cut {n : Nat} (hF : ∀ a o, g.F a = some o → g'.F a = some o) (hx : ∀ a o, g.x a = some o → g'.x a = some o) (hm : ∀ (i : Nat) a, i < n → g.m[i]? = some a → g'.m[i]? = some a) {d : D} {v : V} (h : Rep K mg g d v) (hl : d.lim n = true) : Rep K mg g' d v := by
  induction h with
  | non => exact .non
  | bl => exact .bl
  | int => exact .int
  | str => exact .str
  | byt h => exact .byt h
  | lst h k _ ih => exact .lst (hF _ _ h) k fun i d v a b => ih i d v a b (limL_get hl a)
  | frz h k _ ih => exact .frz (ex_SqL hF h) k fun i d v a b => ih i d v a b (limL_get hl a)
  | tup h k _ ih => exact .tup (ex_SqT hF h) k fun i d v a b => ih i d v a b (limL_get hl a)
  | ins h1 h k q _ ih => exact .ins h1 (hF _ _ h) k q fun i d v a b => ih i d v a b (limF_get hl a)
  | exn h0 h1 h k q _ ih => exact .exn (hx _ _ h0) h1 (hF _ _ h) k q fun i d v a b => ih i d v a b (limF_get hl a)
  | exn0 h0 h1 => exact .exn0 (hx _ _ h0) h1
  | gl h r => exact .gl h r
  | ty => exact .ty
  | edi h => exact .edi (hF _ _ h)
  | ref h => exact .ref (hm _ _ (of_decide_eq_true hl) h)
theorem Rep.limOf {n : Nat} (hn : g.m.length ≤ n) {d : D} {v : V} (h : Rep K mg g d v) : d.lim n = true := by
  have one : ∀ (ds : List D), (∀ (i : Nat) d, ds[i]? = some d → d.lim n = true) → limL n ds = true := by
    intro ds
    induction ds with
    | nil => intro _; rfl
    | cons a r ih => intro h; rw [limL, h 0 a rfl, ih fun i d e => h (i + 1) d (by simpa using e)]; rfl
  have oneF : ∀ (ds : List (String × D)), (∀ (i : Nat) d, ds[i]? = some d → d.2.lim n = true) → limF n ds = true := by
    intro ds
    induction ds with
    | nil => intro _; rfl
    | cons a r ih => intro h; rw [limF, h 0 a rfl, ih fun i d e => h (i + 1) d (by simpa using e)]; rfl
  have there : ∀ {α : Type} {vs : List α} {k i : Nat}, vs.length = k → i < k → ∃ v, vs[i]? = some v := fun {α vs k i} e hi => ⟨_, List.getElem?_eq_getElem (by omega)⟩
  induction h with
  | non => rfl
  | bl => rfl
  | int => rfl
  | str => rfl
  | byt h => rfl
  | lst h k _ ih => exact one _ fun i d e => let ⟨v, hv⟩ := there k (List.getElem?_eq_some_iff.mp e).1; ih i d v e hv
  | frz h k _ ih => exact one _ fun i d e => let ⟨v, hv⟩ := there k (List.getElem?_eq_some_iff.mp e).1; ih i d v e hv
  | tup h k _ ih => exact one _ fun i d e => let ⟨v, hv⟩ := there k (List.getElem?_eq_some_iff.mp e).1; ih i d v e hv
  | ins h1 h k q _ ih => exact oneF _ fun i d e => let ⟨v, hv⟩ := there k (List.getElem?_eq_some_iff.mp e).1; ih i d v e hv
  | exn h0 h1 h k q _ ih => exact oneF _ fun i d e => let ⟨v, hv⟩ := there k (List.getElem?_eq_some_iff.mp e).1; ih i d v e hv
  | exn0 h0 h1 => rfl
  | gl h r => rfl
  | ty => rfl
  | edi h => rfl
  | ref h => exact decide_eq_true (Nat.lt_of_lt_of_le (List.getElem?_eq_some_iff.mp h).1 hn)

theorem Reps.nil : Reps K mg g [] [] := ⟨rfl, fun i d v e => by simp at e⟩
theorem Reps.cons {d : D} {v : V} {ds : List D} {vs : List V} (h : Rep K mg g d v) (r : Reps K mg g ds vs) : Reps K mg g (d :: ds) (v :: vs) := by
  refine ⟨by simp [r.len], fun i a b e1 e2 => ?_⟩
  cases i with
  | zero =>
    have h1 : d = a := by simpa using e1
    have h2 : v = b := by simpa using e2
    rw [← h1, ← h2]; exact h
  | succ i => exact r.at_ i a b (by simpa using e1) (by simpa using e2)
theorem Reps.get {ds : List D} {vs : List V} (r : Reps K mg g ds vs) {i : Nat} {d : D} (e : ds[i]? = some d) : ∃ v, vs[i]? = some v ∧ Rep K mg g d v := by
  have hi : i < vs.length := by rw [r.len]; exact (List.getElem?_eq_some_iff.mp e).1
  exact ⟨vs[i], List.getElem?_eq_getElem hi, r.at_ i d _ e (List.getElem?_eq_getElem hi)⟩
theorem Reps.inv {ds : List D} {d : D} {vs : List V} (r : Reps K mg g (d :: ds) vs) : ∃ v r', vs = v :: r' ∧ Rep K mg g d v ∧ Reps K mg g ds r' := by
  cases vs with
  | nil => have := r.len; simp at this
  | cons v r' => exact ⟨v, r', rfl, r.at_ 0 d v rfl rfl, by simpa using r.len, fun i a b e1 e2 => r.at_ (i + 1) a b (by simpa using e1) (by simpa using e2)⟩
theorem Reps.inv0 {vs : List V} (r : Reps K mg g [] vs) : vs = [] := List.eq_nil_of_length_eq_zero r.len
theorem Reps.append {xs ys : List D} {vs ws : List V} (a : Reps K mg g xs vs) (b : Reps K mg g ys ws) : Reps K mg g (xs ++ ys) (vs ++ ws) := by
  refine ⟨by simp [a.len, b.len], fun i d v e1 e2 => ?_⟩
  by_cases h : i < xs.length
  · rw [List.getElem?_append_left h] at e1
    rw [List.getElem?_append_left (by rw [a.len]; exact h)] at e2
    exact a.at_ i d v e1 e2
  · rw [List.getElem?_append_right (by omega)] at e1
    rw [List.getElem?_append_right (by rw [a.len]; omega), a.len] at e2
    exact b.at_ _ d v e1 e2
theorem Reps.set {xs : List D} {vs : List V} {d : D} {v : V} (a : Reps K mg g xs vs) (h : Rep K mg g d v) (i : Nat) : Reps K mg g (xs.set i d) (vs.set i v) := by
  refine ⟨by simp [a.len], fun j b w e1 e2 => ?_⟩
  by_cases hj : i = j
  · subst hj
    rw [List.getElem?_set] at e1 e2
    simp only [if_true] at e1 e2
    split at e1
    · split at e2
      · cases e1; cases e2; exact h
      · cases e2
    · cases e1
  · rw [List.getElem?_set_ne hj] at e1 e2
    exact a.at_ j b w e1 e2
theorem Reps.take {xs : List D} {vs : List V} (a : Reps K mg g xs vs) (n : Nat) : Reps K mg g (xs.take n) (vs.take n) := by
  refine ⟨by simp [a.len], fun j b w e1 e2 => ?_⟩
  rw [List.getElem?_take] at e1 e2
  split at e1
  · rename_i hj; rw [if_pos hj] at e2; exact a.at_ j b w e1 e2
  · cases e1
theorem Reps.drop {xs : List D} {vs : List V} (a : Reps K mg g xs vs) (n : Nat) : Reps K mg g (xs.drop n) (vs.drop n) := by
  refine ⟨by simp [a.len], fun j b w e1 e2 => ?_⟩
  rw [List.getElem?_drop] at e1 e2
  exact a.at_ _ b w e1 e2
theorem Reps.lst {ds : List D} {vs : List V} (r : Reps K mg g ds vs) {a : Addr} (h : g.F a = some (.lst vs)) : Rep K mg g (.lst ds) (.ref a) := .lst h r.len r.at_
theorem Reps.tup {ds : List D} {vs : List V} (r : Reps K mg g ds vs) {a : Addr} (h : SqT K g.F a vs) : Rep K mg g (.tup ds) (.ref a) := .tup h r.len r.at_
theorem RepF.look {fs : List (String × D)} {fv : List (Str × V)} (r : RepF K mg g fs fv) (f : String) {d : D} (h : fs.lookup f = some d) : ∃ v, fv.lookup (nm f) = some v ∧ Rep K mg g d v := by
  induction fs generalizing fv with
  | nil => simp at h
  | cons p r' ih =>
    obtain ⟨k, x⟩ := p
    cases fv with
    | nil => have := r.len; simp at this
    | cons q fv' =>
      obtain ⟨k', y⟩ := q
      have hk : k' = nm k := r.key 0 _ _ rfl rfl
      have hr : RepF K mg g r' fv' := ⟨by simpa using r.len, fun i p q e1 e2 => r.key (i + 1) p q (by simpa using e1) (by simpa using e2), fun i p q e1 e2 => r.at_ (i + 1) p q (by simpa using e1) (by simpa using e2)⟩
      by_cases e : f = k
      · subst e
        rw [List.lookup_cons_self] at h
        cases h
        exact ⟨y, by rw [hk, List.lookup_cons_self], r.at_ 0 _ _ rfl rfl⟩
      · have e1 : (f == k) = false := beq_eq_false_iff_ne.mpr e
        have e2 : (nm f == k') = false := beq_eq_false_iff_ne.mpr fun q => e (nm_inj (q.trans hk))
        rw [List.lookup_cons, e1] at h
        obtain ⟨v, hv, rv⟩ := ih hr h
        exact ⟨v, by rw [List.lookup_cons, e2]; exact hv, rv⟩
theorem RepF.lookN {fs : List (String × D)} {fv : List (Str × V)} (r : RepF K mg g fs fv) (f : String) (h : fs.lookup f = none) : fv.lookup (nm f) = none := by
  induction fs generalizing fv with
  | nil =>
    have : fv = [] := List.eq_nil_of_length_eq_zero r.len
    rw [this]; rfl
  | cons p r' ih =>
    obtain ⟨k, x⟩ := p
    cases fv with
    | nil => rfl
    | cons q fv' =>
      obtain ⟨k', y⟩ := q
      have hk : k' = nm k := r.key 0 _ _ rfl rfl
      have hr : RepF K mg g r' fv' := ⟨by simpa using r.len, fun i p q e1 e2 => r.key (i + 1) p q (by simpa using e1) (by simpa using e2), fun i p q e1 e2 => r.at_ (i + 1) p q (by simpa using e1) (by simpa using e2)⟩
      by_cases e : f = k
      · subst e
        rw [List.lookup_cons_self] at h
        cases h
      · have e1 : (f == k) = false := beq_eq_false_iff_ne.mpr e
        have e2 : (nm f == k') = false := beq_eq_false_iff_ne.mpr fun q => e (nm_inj (q.trans hk))
        rw [List.lookup_cons, e1] at h
        rw [List.lookup_cons, e2]
        exact ih hr h
theorem RepF.inv {p : String × D} {r' : List (String × D)} {fv : List (Str × V)} (r : RepF K mg g (p :: r') fv) : ∃ y fv', fv = (nm p.1, y) :: fv' ∧ Rep K mg g p.2 y ∧ RepF K mg g r' fv' := by
  cases fv with
  | nil => have := r.len; simp at this
  | cons q fv' =>
    obtain ⟨k', y⟩ := q
    have hk : k' = nm p.1 := r.key 0 _ _ rfl rfl
    exact ⟨y, fv', by rw [hk], r.at_ 0 _ _ rfl rfl, by simpa using r.len, fun i p q e1 e2 => r.key (i + 1) p q (by simpa using e1) (by simpa using e2), fun i p q e1 e2 => r.at_ (i + 1) p q (by simpa using e1) (by simpa using e2)⟩
theorem RepF.consF {f : String} {d : D} {v : V} {fs : List (String × D)} {fv : List (Str × V)} (h : Rep K mg g d v) (r : RepF K mg g fs fv) : RepF K mg g ((f, d) :: fs) ((nm f, v) :: fv) := by
  refine ⟨by simp [r.len], fun i p q e1 e2 => ?_, fun i p q e1 e2 => ?_⟩
  · cases i with
    | zero => cases e1; cases e2; rfl
    | succ i => exact r.key i p q (by simpa using e1) (by simpa using e2)
  · cases i with
    | zero => cases e1; cases e2; exact h
    | succ i => exact r.at_ i p q (by simpa using e1) (by simpa using e2)
theorem RepF.nil : RepF K mg g [] [] := ⟨rfl, fun i p q e => by simp at e, fun i p q e => by simp at e⟩
theorem RepF.put {fs : List (String × D)} {fv : List (Str × V)} (r : RepF K mg g fs fv) (f : String) {d : D} {v : V} (h : Rep K mg g d v) : RepF K mg g (putD f d fs) (putF (nm f) v fv) := by
  induction fs generalizing fv with
  | nil =>
    have : fv = [] := List.eq_nil_of_length_eq_zero r.len
    rw [this]
    exact RepF.consF h RepF.nil
  | cons p r' ih =>
    obtain ⟨k, x⟩ := p
    obtain ⟨y, fv', rfl, rx, hr⟩ := r.inv
    show RepF K mg g (if k = f then (f, d) :: r' else (k, x) :: putD f d r') (if nm k = nm f then (nm k, v) :: fv' else (nm k, y) :: putF (nm f) v fv')
    by_cases e : k = f
    · subst e
      rw [if_pos rfl, if_pos rfl]
      exact RepF.consF h hr
    · rw [if_neg e, if_neg fun q => e (nm_inj q)]
      exact RepF.consF rx (ih hr)
end

/-! ### the store -/
def Ob.live : Ob → Bool
  | .dead => false
  | _ => true
section
variable (K : PySem.W.Frag) (mg : Str → Option Value)
def OAt (g : Gh) (H : Hp) (a : Addr) : Ob → Prop
  | .dead => True
  | .lst _ xs => g.F a = none ∧ ∃ vs, H a = some (.lst vs) ∧ Reps K mg g xs vs
  | .ins c fs => g.F a = none ∧ ∃ C dx fv, mg (nm c) = some (.ref C) ∧ H a = some (.ins C dx fv) ∧ RepF K mg g fs fv
structure SRel (g : Gh) (S : Sto) (H : Hp) : Prop where
  sub : ∀ a o, g.F a = some o → H a = some o
  len : g.m.length = S.length
  ob : ∀ (i : Nat) o a, S[i]? = some o → g.m[i]? = some a → OAt K mg g H a o
  inj : ∀ (i j : Nat) o o' a, S[i]? = some o → S[j]? = some o' → o.live = true → o'.live = true → g.m[i]? = some a → g.m[j]? = some a → i = j
/-- in an except suite: the slot of the caught exception, where it is, its class, its dict, its fields -/
abbrev Xc := Option (Nat × Addr × Value × Option Addr × String × List (String × D))
/-- a def's body runs: S0 the store at its entry -/
structure Rel (xc : Xc) (g : Gh) (S0 : Sto) (e : Env) (S : Sto) (σ : L2.St) (H : Hp) : Prop where
  st : SRel K mg g S H
  le0 : S0.length ≤ S.length
  frm : ∀ (i : Nat) o, i < S0.length → S[i]? = some o → ∃ o0, S0[i]? = some o0 ∧ ∀ n, o0.lim n = true → o.lim n = true
  el : e.length = σ.length
  sl : ∀ (i : Nat) d, e[i]? = some (some d) → ∃ v, σ[i]? = some (some v) ∧ Rep K mg g d v
  cur : ∀ i a cls d c fs, xc = some (i, a, cls, d, c, fs) → σ[i]? = some (some (.ref a)) ∧ XRep K mg g c fs cls d
end
def Gh.frz (g : Gh) (p : Addr) (o : HO) : Gh := { g with F := upd g.F p o }
def Gh.new (g : Gh) (p : Addr) : Gh := { g with m := g.m ++ [p] }
section
variable {K : PySem.W.Frag} {mg : Str → Option Value} {g g' : Gh} {S S0 : Sto} {e : Env} {σ : L2.St} {H H' : Hp} {p : Addr} {o : HO}
theorem Gh.le_frz (h : g.F p = none) : g.le (g.frz p o) := ⟨fun a u e => by
  show upd g.F p o a = some u
  rw [upd_ne (fun q => by rw [q, h] at e; cases e)]; exact e, fun _ _ h => h, fun _ _ h => h⟩
theorem Gh.le_new : g.le (g.new p) := ⟨fun _ _ h => h, fun i a e => by
  show (g.m ++ [p])[i]? = some a
  rw [List.getElem?_append_left (List.getElem?_eq_some_iff.mp e).1]; exact e, fun _ _ h => h⟩
theorem OAt.mono (l : g.le g') {a : Addr} {ob : Ob} (hF : g.F a = none → g'.F a = none) (hH : ∀ u, H a = some u → H' a = some u) (h : OAt K mg g H a ob) : OAt K mg g' H' a ob := by
  cases ob with
  | dead => trivial
  | lst w xs =>
    obtain ⟨h1, vs, h2, h3⟩ := h
    exact ⟨hF h1, vs, hH _ h2, h3.mono l⟩
  | ins c fs =>
    obtain ⟨h1, C, dx, fv, h0, h2, h3⟩ := h
    exact ⟨hF h1, C, dx, fv, h0, hH _ h2, h3.mono l⟩
theorem OAt.here {a : Addr} {ob : Ob} (h : OAt K mg g H a ob) (hl : ob.live = true) : g.F a = none ∧ H a ≠ none := by
  cases ob with
  | dead => cases hl
  | lst w xs =>
    obtain ⟨h1, vs, h2, h3⟩ := h
    exact ⟨h1, by rw [h2]; simp⟩
  | ins c fs =>
    obtain ⟨h1, C, dx, fv, h0, h2, h3⟩ := h
    exact ⟨h1, by rw [h2]; simp⟩
/-- where an object of the store stands -/
theorem SRel.at_ (r : SRel K mg g S H) {i : Nat} {ob : Ob} (h : S[i]? = some ob) : ∃ a, g.m[i]? = some a ∧ OAt K mg g H a ob := by
  have hi : i < g.m.length := by rw [r.len]; exact (List.getElem?_eq_some_iff.mp h).1
  exact ⟨_, List.getElem?_eq_getElem hi, r.ob _ _ _ h (List.getElem?_eq_getElem hi)⟩
theorem SRel.fresh (r : SRel K mg g S H) (h : H p = none) : g.F p = none := by
  cases q : g.F p with
  | none => rfl
  | some u => rw [r.sub _ _ q] at h; cases h
/-- a new frozen object -/
theorem SRel.frz (r : SRel K mg g S H) (h : H p = none) : SRel K mg (g.frz p o) S (upd H p o) := by
  have hF := r.fresh h
  refine ⟨fun a u e => ?_, r.len, fun i ob a h1 h2 => ?_, r.inj⟩
  · by_cases q : a = p
    · subst q
      have e' : upd g.F a o a = some u := e
      rw [upd_same] at e'
      rw [upd_same]; exact e'
    · have e' : upd g.F p o a = some u := e
      rw [upd_ne q] at e'
      rw [upd_ne q]; exact r.sub _ _ e'
  · have hob := r.ob i ob a h1 h2
    cases hl : ob.live with
    | false =>
      cases ob with
      | dead => trivial
      | _ => cases hl
    | true =>
      obtain ⟨q1, q2⟩ := hob.here hl
      have ne : a ≠ p := fun q => q2 (by rw [q]; exact h)
      exact hob.mono (Gh.le_frz hF) (fun _ => by show upd g.F p o a = none; rw [upd_ne ne]; exact q1) fun u e => by rw [upd_ne ne]; exact e
/-- an object of the frozen part that is none of the store's: the heap grows beside -/
theorem SRel.heap (r : SRel K mg g S H) (h : ∀ a u, H a = some u → H' a = some u) : SRel K mg g S H' :=
  ⟨fun a u e => h _ _ (r.sub _ _ e), r.len, fun i ob a h1 h2 => (r.ob i ob a h1 h2).mono (.refl g) (fun q => q) (h a), r.inj⟩
/-- a new object of the store -/
theorem SRel.new (r : SRel K mg g S H) (h : H p = none) {ob : Ob} (hl : ob.live = true) (ho : OAt K mg (g.new p) (upd H p o) p ob) : SRel K mg (g.new p) (S ++ [ob]) (upd H p o) := by
  have hF := r.fresh h
  have low : ∀ {i : Nat} {u : Ob} {a : Addr}, (S ++ [ob])[i]? = some u → (g.m ++ [p])[i]? = some a → (S[i]? = some u ∧ g.m[i]? = some a ∧ i < S.length) ∨ (i = S.length ∧ u = ob ∧ a = p) := by
    intro i u a h1 h2
    by_cases hi : i < S.length
    · rw [List.getElem?_append_left hi] at h1
      rw [List.getElem?_append_left (by rw [r.len]; exact hi)] at h2
      exact .inl ⟨h1, h2, hi⟩
    · have e : i = S.length := by
        have := (List.getElem?_eq_some_iff.mp h1).1
        simp at this; omega
      subst e
      rw [List.getElem?_append_right (Nat.le_refl _)] at h1
      rw [List.getElem?_append_right (by rw [r.len]; exact Nat.le_refl _)] at h2
      simp [r.len] at h1 h2
      exact .inr ⟨rfl, h1.symm, h2.symm⟩
  have far : ∀ {i : Nat} {u : Ob} {a : Addr}, S[i]? = some u → g.m[i]? = some a → u.live = true → a ≠ p := fun {i u a} h1 h2 hu q => ((r.ob _ _ _ h1 h2).here hu).2 (by rw [q]; exact h)
  refine ⟨fun a u e => ?_, by show (g.m ++ [p]).length = _; simp [r.len], fun i u a h1 h2 => ?_, fun i j u u' a h1 h2 l1 l2 e1 e2 => ?_⟩
  · have : a ≠ p := fun q => by
      have e' : g.F a = some u := e
      rw [q, hF] at e'; cases e'
    rw [upd_ne this]; exact r.sub _ _ e
  · rcases low h1 h2 with ⟨k1, k2, _⟩ | ⟨_, rfl, rfl⟩
    · have hob := r.ob _ _ _ k1 k2
      cases hu : u.live with
      | false =>
        cases u with
        | dead => trivial
        | _ => cases hu
      | true => exact hob.mono Gh.le_new (fun q => q) fun w e => by rw [upd_ne (far k1 k2 hu)]; exact e
    · exact ho
  · rcases low h1 e1 with ⟨k1, k2, _⟩ | ⟨q1, rfl, rfl⟩
    · rcases low h2 e2 with ⟨k3, k4, _⟩ | ⟨q2, rfl, rfl⟩
      · exact r.inj _ _ _ _ _ k1 k3 l1 l2 k2 k4
      · exact absurd rfl (far k1 k2 l1)
    · rcases low h2 e2 with ⟨k3, k4, _⟩ | ⟨q2, _, _⟩
      · exact absurd rfl (far k3 k4 l2)
      · omega
/-- an object of the store written -/
theorem SRel.put (r : SRel K mg g S H) {i : Nat} {a : Addr} {ob ob' : Ob} (h : S[i]? = some ob) (hl : ob.live = true) (hm : g.m[i]? = some a) (ho : OAt K mg g (upd H a o) a ob') : SRel K mg g (S.set i ob') (upd H a o) := by
  obtain ⟨q1, q2⟩ := (r.ob _ _ _ h hm).here hl
  have hi : i < S.length := (List.getElem?_eq_some_iff.mp h).1
  have low : ∀ {j : Nat} {u : Ob}, (S.set i ob')[j]? = some u → (j = i ∧ u = ob') ∨ (j ≠ i ∧ S[j]? = some u) := by
    intro j u e
    by_cases hj : i = j
    · subst hj
      rw [List.getElem?_set_self hi] at e
      exact .inl ⟨rfl, (Option.some.inj e).symm⟩
    · rw [List.getElem?_set_ne hj] at e
      exact .inr ⟨Ne.symm hj, e⟩
  refine ⟨fun b u e => ?_, by simp [r.len], fun j u b h1 h2 => ?_, fun j k u u' b h1 h2 l1 l2 e1 e2 => ?_⟩
  · have : b ≠ a := fun q => by rw [q, q1] at e; cases e
    rw [upd_ne this]; exact r.sub _ _ e
  · rcases low h1 with ⟨rfl, rfl⟩ | ⟨nj, k1⟩
    · rw [hm] at h2; cases h2; exact ho
    · cases hu : u.live with
      | false =>
        cases u with
        | dead => trivial
        | _ => cases hu
      | true =>
        have ne : b ≠ a := fun q => nj (r.inj _ _ _ _ b k1 h hu hl h2 (by rw [q]; exact hm))
        exact (r.ob _ _ _ k1 h2).mono (.refl g) (fun q => q) fun w e => by rw [upd_ne ne]; exact e
  · rcases low h1 with ⟨rfl, rfl⟩ | ⟨nj, k1⟩
    · rcases low h2 with ⟨rfl, rfl⟩ | ⟨nk, k2⟩
      · rfl
      · exact r.inj _ _ _ _ b h k2 hl l2 e1 e2
    · rcases low h2 with ⟨rfl, rfl⟩ | ⟨nk, k2⟩
      · exact r.inj _ _ _ _ b k1 h l1 hl e1 e2
      · exact r.inj _ _ _ _ b k1 k2 l1 l2 e1 e2
/-- an object of the store frozen where it stands -/
theorem SRel.frost (r : SRel K mg g S H) {i : Nat} {a : Addr} {ob : Ob} (h : S[i]? = some ob) (hl : ob.live = true) (hm : g.m[i]? = some a) (ha : H a = some o) : SRel K mg (g.frz a o) (S.set i .dead) H := by
  obtain ⟨q1, q2⟩ := (r.ob _ _ _ h hm).here hl
  have hi : i < S.length := (List.getElem?_eq_some_iff.mp h).1
  have low : ∀ {j : Nat} {u : Ob}, (S.set i .dead)[j]? = some u → u.live = true → j ≠ i ∧ S[j]? = some u := by
    intro j u e l
    by_cases hj : i = j
    · subst hj
      rw [List.getElem?_set_self hi] at e
      cases e; cases l
    · rw [List.getElem?_set_ne hj] at e
      exact ⟨Ne.symm hj, e⟩
  refine ⟨fun b u e => ?_, by show g.m.length = _; simp [r.len], fun j u b h1 h2 => ?_, fun j k u u' b h1 h2 l1 l2 e1 e2 => ?_⟩
  · have e' : upd g.F a o b = some u := e
    by_cases q : b = a
    · subst q
      rw [upd_same] at e'
      rw [ha]; exact e'
    · rw [upd_ne q] at e'
      exact r.sub _ _ e'
  · cases hu : u.live with
    | false =>
      cases u with
      | dead => trivial
      | _ => cases hu
    | true =>
      obtain ⟨nj, k1⟩ := low h1 hu
      have ne : b ≠ a := fun q => nj (r.inj _ _ _ _ b k1 h hu hl h2 (by rw [q]; exact hm))
      obtain ⟨z1, z2⟩ := (r.ob _ _ _ k1 h2).here hu
      exact (r.ob _ _ _ k1 h2).mono (Gh.le_frz q1) (fun _ => by show upd g.F a o b = none; rw [upd_ne ne]; exact z1) fun w e => e
  · obtain ⟨_, k1⟩ := low h1 l1
    obtain ⟨_, k2⟩ := low h2 l2
    exact r.inj _ _ _ _ b k1 k2 l1 l2 e1 e2
/-- the store forgotten above n -/
theorem SRel.cut (r : SRel K mg g S H) (n : Nat) (hc : ∀ (i : Nat) o, i < n → S[i]? = some o → o.lim n = true) :
    SRel K mg { g with m := g.m.take n } (S.take n) H := by
  have low : ∀ {i : Nat} {u : Ob}, (S.take n)[i]? = some u → i < n ∧ S[i]? = some u := fun {i u} e => by
    rw [List.getElem?_take] at e
    split at e
    · rename_i h; exact ⟨h, e⟩
    · cases e
  have lowm : ∀ {i : Nat} {u : Addr}, (g.m.take n)[i]? = some u → g.m[i]? = some u := fun {i u} e => by
    rw [List.getElem?_take] at e
    split at e
    · exact e
    · cases e
  have cm : ∀ (i : Nat) a, i < n → g.m[i]? = some a → (g.m.take n)[i]? = some a := fun i a hi e => by rw [List.getElem?_take, if_pos hi]; exact e
  refine ⟨r.sub, by show (g.m.take n).length = (S.take n).length; simp [r.len], fun i u a h1 h2 => ?_, fun i j u u' a h1 h2 l1 l2 e1 e2 => r.inj i j u u' a (low h1).2 (low h2).2 l1 l2 (lowm e1) (lowm e2)⟩
  obtain ⟨hi, k1⟩ := low h1
  have hob := r.ob _ _ _ k1 (lowm h2)
  have hc' := hc i u hi k1
  cases u with
  | dead => trivial
  | lst w xs =>
    obtain ⟨z1, vs, z2, z3⟩ := hob
    exact ⟨z1, vs, z2, z3.len, fun j d v e1 e2 => Rep.cut (g := g) (g' := { g with m := g.m.take n }) (n := n) (fun _ _ q => q) (fun _ _ q => q) cm (z3.at_ j d v e1 e2) (limL_get hc' e1)⟩
  | ins c fs =>
    obtain ⟨z1, C, dx, fv, z0, z2, z3⟩ := hob
    exact ⟨z1, C, dx, fv, z0, z2, z3.len, z3.key, fun j d v e1 e2 => Rep.cut (g := g) (g' := { g with m := g.m.take n }) (n := n) (fun _ _ q => q) (fun _ _ q => q) cm (z3.at_ j d v e1 e2) (limF_get hc' e1)⟩
end
end Mir
end

/-! MirRead -/
section
set_option Elab.async false
set_option linter.all false
set_option maxRecDepth 100000
/-! MirRead: readings by meanings: each rule of the hand layer once, over meanings. -/
namespace Mir
open PySem L2

/-- what a callee leaves of the store that stood: no ref in it grows -/
structure KFr (S0 S : Sto) : Prop where
  le0 : S0.length ≤ S.length
  frm : ∀ (i : Nat) o, i < S0.length → S[i]? = some o → ∃ o0, S0[i]? = some o0 ∧ ∀ n, o0.lim n = true → o.lim n = true
theorem KFr.refl (S : Sto) : KFr S S := ⟨Nat.le_refl _, fun _ o _ h => ⟨o, h, fun _ q => q⟩⟩
theorem KFr.trans {S0 S S' : Sto} (a : KFr S0 S) (b : KFr S S') : KFr S0 S' := by
  refine ⟨Nat.le_trans a.le0 b.le0, fun i o hi h => ?_⟩
  obtain ⟨o1, h1, k1⟩ := b.frm i o (Nat.lt_of_lt_of_le hi a.le0) h
  obtain ⟨o0, h0, k0⟩ := a.frm i o1 hi h1
  exact ⟨o0, h0, fun n q => k1 n (k0 n q)⟩
/-- one object turned -/
theorem KFr.set {S0 S : Sto} {i : Nat} {o ob : Ob} (k : KFr S0 S) (h : S[i]? = some ob) (hp : S0.length ≤ i ∨ ∀ n, ob.lim n = true → o.lim n = true) : KFr S0 (S.set i o) := by
  have hi : i < S.length := (List.getElem?_eq_some_iff.mp h).1
  refine ⟨by simp [k.le0], fun j u hj hu => ?_⟩
  by_cases e : i = j
  · subst e
    rw [List.getElem?_set_self hi] at hu
    cases hu
    rcases hp with hp | hp
    · omega
    · obtain ⟨o0, h0, k0⟩ := k.frm i ob hj h
      exact ⟨o0, h0, fun n q => hp n (k0 n q)⟩
  · rw [List.getElem?_set_ne e] at hu
    exact k.frm j u hj hu
theorem KFr.push {S0 S : Sto} (k : KFr S0 S) (l : Sto) : KFr S0 (S ++ l) := by
  refine ⟨by rw [List.length_append]; exact Nat.le_trans k.le0 (Nat.le_add_right _ _), fun j u hj hu => ?_⟩
  rw [List.getElem?_append_left (Nat.lt_of_lt_of_le hj k.le0)] at hu
  exact k.frm j u hj hu
section
variable {K : PySem.W.Frag} {mg : Str → Option Value} {xc : Xc}
theorem Rel.kfr {g : Gh} {S0 : Sto} {e : Env} {S : Sto} {σ : L2.St} {H : Hp} (r : Rel K mg xc g S0 e S σ H) : KFr S0 S := ⟨r.le0, r.frm⟩
/-- the store has moved, the slots stand -/
theorem Rel.move {g g' : Gh} {S0 : Sto} {e : Env} {S S' : Sto} {σ : L2.St} {H H' : Hp} (r : Rel K mg xc g S0 e S σ H) (l : g.le g') (s : SRel K mg g' S' H') (k : KFr S S') : Rel K mg xc g' S0 e S' σ H' := by
  have k2 := r.kfr.trans k
  exact ⟨s, k2.le0, k2.frm, r.el, fun i d h => let ⟨v, h1, h2⟩ := r.sl i d h; ⟨v, h1, h2.mono l⟩, fun i a cls d c fs h => let ⟨h1, h2⟩ := r.cur i a cls d c fs h; ⟨h1, h2.mono l⟩⟩
/-- a slot written -/
theorem Rel.slot {g : Gh} {S0 : Sto} {e : Env} {S : Sto} {σ : L2.St} {H : Hp} (r : Rel K mg xc g S0 e S σ H) {i : Nat} (hi : i < e.length) {d : D} {v : V} (h : Rep K mg g d v) (hx : ∀ p, xc = some p → p.1 ≠ i) : Rel K mg xc g S0 (e.set i (some d)) S (σ.set i (some v)) H := by
  refine ⟨r.st, r.le0, r.frm, by simp [r.el], fun j b h1 => ?_, fun j a cls d c fs h => ?_⟩
  · by_cases hj : i = j
    · subst hj
      rw [List.getElem?_set_self hi] at h1
      cases h1
      exact ⟨v, List.getElem?_set_self (by rw [← r.el]; exact hi), h⟩
    · rw [List.getElem?_set_ne hj] at h1
      obtain ⟨w, h2, h3⟩ := r.sl j b h1
      exact ⟨w, by rw [List.getElem?_set_ne hj]; exact h2, h3⟩
  · obtain ⟨h1, h2⟩ := r.cur j a cls d c fs h
    exact ⟨by rw [List.getElem?_set_ne (Ne.symm (hx _ h))]; exact h1, h2⟩
/-- a slot told otherwise -/
theorem Rel.told {g : Gh} {S0 : Sto} {e : Env} {S : Sto} {σ : L2.St} {H : Hp} (r : Rel K mg xc g S0 e S σ H) {i : Nat} (hi : i < e.length) {d : D} {v : V} (h : Rep K mg g d v) (hv : σ[i]? = some (some v)) : Rel K mg xc g S0 (e.set i (some d)) S σ H := by
  refine ⟨r.st, r.le0, r.frm, by simp [r.el], fun j b h1 => ?_, r.cur⟩
  by_cases hj : i = j
  · subst hj
    rw [List.getElem?_set_self hi] at h1
    cases h1
    exact ⟨v, hv, h⟩
  · rw [List.getElem?_set_ne hj] at h1
    exact r.sl j b h1
/-- heap and ghost go on, whatever the frame -/
structure Ext (K : PySem.W.Frag) (mg : Str → Option Value) (g : Gh) (H : Hp) (g' : Gh) (H' : Hp) : Prop where
  le : g.le g'
  rel : ∀ S, SRel K mg g S H → SRel K mg g' S H'
theorem Ext.refl (g : Gh) (H : Hp) : Ext K mg g H g H := ⟨.refl g, fun _ h => h⟩
theorem Ext.frz {g : Gh} {S : Sto} {H : Hp} {p : Addr} {o : HO} (r : SRel K mg g S H) (h : H p = none) : Ext K mg g H (g.frz p o) (upd H p o) := ⟨Gh.le_frz (r.fresh h), fun _ q => q.frz h⟩
theorem Ext.trans {g g1 g2 : Gh} {H H1 H2 : Hp} (a : Ext K mg g H g1 H1) (b : Ext K mg g1 H1 g2 H2) : Ext K mg g H g2 H2 := ⟨a.le.trans b.le, fun S h => b.rel S (a.rel S h)⟩
theorem Rel.ext {g g' : Gh} {S0 : Sto} {e : Env} {S : Sto} {σ : L2.St} {H H' : Hp} (r : Rel K mg xc g S0 e S σ H) (x : Ext K mg g H g' H') : Rel K mg xc g' S0 e S σ H' := r.move x.le (x.rel _ r.st) (.refl S)

/-- what a result promises -/
def Post {α : Type} (K : PySem.W.Frag) (mg : Str → Option Value) (xc : Xc) (W : WX) (S0 : Sto) (T : L2.St → Prop) (g : Gh) (r : R α) (Φ : Gh → α → Env → Sto → L2.St → Hp → Prop) : Prop := match r with
  | .ok a e S => ∀ g' σ' H', T σ' → g.le g' → Rel K mg xc g' S0 e S σ' H' → Φ g' a e S σ' H'
  | .exc c fs e S => ∀ g' σ' H' cls d, T σ' → g.le g' → Rel K mg xc g' S0 e S σ' H' → XRep K mg g' c fs cls d → W cls d σ' H'
  | .stuck => False
section
variable {α β : Type} {W : WX} {S0 : Sto} {T T' : L2.St → Prop} {g g' : Gh} {r : R α}
theorem Post.le {Φ : Gh → α → Env → Sto → L2.St → Hp → Prop} (h : Post K mg xc W S0 T g r Φ) (l : g.le g') : Post K mg xc W S0 T g' r Φ := by
  cases r with
  | ok a e S => exact fun g1 σ1 H1 t l1 q => h g1 σ1 H1 t (l.trans l1) q
  | exc c fs e S => exact fun g1 σ1 H1 cls d t l1 q x => h g1 σ1 H1 cls d t (l.trans l1) q x
  | stuck => exact h
theorem Post.imp {Φ Ψ : Gh → α → Env → Sto → L2.St → Hp → Prop} (h : Post K mg xc W S0 T g r Φ) (ht : ∀ σ, T' σ → T σ) (k : ∀ g' a e S σ' H', T' σ' → g.le g' → Rel K mg xc g' S0 e S σ' H' → Φ g' a e S σ' H' → Ψ g' a e S σ' H') : Post K mg xc W S0 T' g r Ψ := by
  cases r with
  | ok a e S => exact fun g1 σ1 H1 t l1 q => k g1 a e S σ1 H1 t l1 q (h g1 σ1 H1 (ht _ t) l1 q)
  | exc c fs e S => exact fun g1 σ1 H1 cls d t l1 q x => h g1 σ1 H1 cls d (ht _ t) l1 q x
  | stuck => exact h
theorem Post.bind {f : α → Env → Sto → R β} {Φ : Gh → β → Env → Sto → L2.St → Hp → Prop} (h : Post K mg xc W S0 T g (r.bind f) Φ) : Post K mg xc W S0 T g r (fun g' a e S _ _ => Post K mg xc W S0 T g' (f a e S) Φ) := by
  cases r with
  | ok a e S => exact fun g1 σ1 H1 t l1 q => Post.le h l1
  | exc c fs e S => exact h
  | stuck => exact h
theorem Post.opt {o : Option α} {e : Env} {S : Sto} {Φ : Gh → α → Env → Sto → L2.St → Hp → Prop} (h : Post K mg xc W S0 T g (R.opt o e S) Φ) : ∃ a, o = some a ∧ ∀ g' σ' H', T σ' → g.le g' → Rel K mg xc g' S0 e S σ' H' → Φ g' a e S σ' H' := by
  cases o with
  | none => exact False.elim h
  | some a => exact ⟨a, rfl, h⟩
end
end

/-- where a rule may stand -/
structure Ok (X : Cx) (W : WX) : Prop where
  tk : Takes X W
  po : PassesOwn (model X.prog X.w) X.A X.env X.xe
  hu : X.A.units + 64 < cLine

def tI (X : Cx) (xc : Xc) (W : WX) (f : SE) : TE := fun σ H Q => ∃ g S0 e S, Rel X.K X.mg xc g S0 e S σ H ∧ Post X.K X.mg xc W S0 (· = σ) g (f S0.length e S) (fun g' d _ _ _ H' => ∀ v, Rep X.K X.mg g' d v → Q v H')
def tAI (X : Cx) (xc : Xc) (W : WX) (f : SA) : TA := fun σ H Q => ∃ g S0 e S, Rel X.K X.mg xc g S0 e S σ H ∧ Post X.K X.mg xc W S0 (· = σ) g (f S0.length e S) (fun g' ds _ _ _ H' => ∀ vs, Reps X.K X.mg g' ds vs → Q vs H')
def tTI (X : Cx) (xc : Xc) (W : WX) (f : ST) : TT := fun σ H Q => ∃ g S0 e S, Rel X.K X.mg xc g S0 e S σ H ∧ Post X.K X.mg xc W S0 (· = σ) g (f S0.length e S) (fun _ b _ _ _ H' => Q b H')
def EndOf (K : PySem.W.Frag) (mg : Str → Option Value) (D : Ends) : Gh → Fl → Env → Sto → L2.St → Hp → Prop := fun g f _ _ σ H => match f with
  | .nx => D.nx σ H
  | .bk => D.bk σ H
  | .ct => D.ct σ H
  | .ret d => ∀ v, Rep K mg g d v → D.rt v H
def tSI (X : Cx) (xc : Xc) (W : WX) (f : SS) : TS := fun D σ H => ∃ g S0 e S, Rel X.K X.mg xc g S0 e S σ H ∧ Post X.K X.mg xc W S0 (fun _ => True) g (f S0.length e S) (EndOf X.K X.mg D)
def tGI (X : Cx) (xc : Xc) (W : WX) (f : SG) : TG := fun v σ H Q => ∃ g S0 e S d, Rel X.K X.mg xc g S0 e S σ H ∧ Rep X.K X.mg g d v ∧ Post X.K X.mg xc W S0 (fun _ => True) g (f S0.length d e S) (fun _ _ _ _ σ' H' => Q σ' H')
def tGsI (X : Cx) (xc : Xc) (W : WX) (f : Nat → List D → Env → Sto → R Unit) : TGs := fun vs σ H Q => ∃ g S0 e S ds, Rel X.K X.mg xc g S0 e S σ H ∧ Reps X.K X.mg g ds vs ∧ Post X.K X.mg xc W S0 (fun _ => True) g (f S0.length ds e S) (fun _ _ _ _ σ' H' => Q σ' H')

def RE (X : Cx) (xc : Xc) (e : Expr) (f : SE) : Prop := ∀ W, Ok X W → PE X e (tI X xc W f)
def RA (X : Cx) (xc : Xc) (es : List Expr) (f : SA) : Prop := ∀ W, Ok X W → PA X es (tAI X xc W f)
def RT (X : Cx) (xc : Xc) (e : Expr) (f : ST) : Prop := ∀ W, Ok X W → PT X e (tTI X xc W f)
def RW (X : Cx) (xc : Xc) (e : Expr) (f : ST) : Prop := ∀ W, Ok X W → PW X e (tTI X xc W f)
def RS (X : Cx) (xc : Xc) (s : Stmt) (f : SS) : Prop := ∀ W, Ok X W → PS X s (tSI X xc W f)
def RSs (X : Cx) (xc : Xc) (s : List Stmt) (f : SS) : Prop := ∀ W, Ok X W → PSs X s (tSI X xc W f)
def RG (X : Cx) (xc : Xc) (tg : Expr) (f : SG) : Prop := ∀ W, Ok X W → PG X tg (tGI X xc W f)
def RGs (X : Cx) (xc : Xc) (ts : List Expr) (f : Nat → List D → Env → Sto → R Unit) : Prop := ∀ W, Ok X W → PGs X ts (tGsI X xc W f)

section
variable {X : Cx} {xc : Xc}
theorem pe_imp {e : Expr} {t t' : TE} (h : PE X e t) (k : ∀ σ H Q, t' σ H Q → t σ H Q) : PE X e t' := ⟨fun pins s σ H Q I q => h.run pins s σ H Q I (k σ H Q q)⟩
theorem pa_imp {e : List Expr} {t t' : TA} (h : PA X e t) (k : ∀ σ H Q, t' σ H Q → t σ H Q) : PA X e t' := ⟨fun pos pins s σ H Q I q => h.run pos pins s σ H Q I (k σ H Q q)⟩
theorem pt_imp {e : Expr} {t t' : TT} (h : PT X e t) (k : ∀ σ H Q, t' σ H Q → t σ H Q) : PT X e t' := ⟨fun pins s σ H Q I q => h.run pins s σ H Q I (k σ H Q q)⟩
theorem pw_imp {e : Expr} {t t' : TT} (h : PW X e t) (k : ∀ σ H Q, t' σ H Q → t σ H Q) : PW X e t' := ⟨fun wh pins s σ H Q I q => h.run wh pins s σ H Q I (k σ H Q q)⟩
theorem ps_imp {e : Stmt} {t t' : TS} (h : PS X e t) (k : ∀ D σ H, t' D σ H → t D σ H) : PS X e t' := ⟨fun pins s σ H D I q => h.run pins s σ H D I (k D σ H q)⟩
theorem pss_imp {e : List Stmt} {t t' : TS} (h : PSs X e t) (k : ∀ D σ H, t' D σ H → t D σ H) : PSs X e t' := ⟨fun pins s σ H D I q => h.run pins s σ H D I (k D σ H q)⟩
theorem pg_imp {e : Expr} {t t' : TG} (h : PG X e t) (k : ∀ v σ H Q, t' v σ H Q → t v σ H Q) : PG X e t' := ⟨fun pins s σ H v u Q I r q => h.run pins s σ H v u Q I r (k v σ H Q q)⟩
theorem pgs_imp {e : List Expr} {t t' : TGs} (h : PGs X e t) (k : ∀ v σ H Q, t' v σ H Q → t v σ H Q) : PGs X e t' := ⟨fun pins s σ H v u Q I r q => h.run pins s σ H v u Q I r (k v σ H Q q)⟩

/-! ### names, constants -/
theorem re_c {e : Expr} {d : D} {v : V} (h : ∀ W, Ok X W → PE X e (tC v)) (r : ∀ g, Rep X.K X.mg g d v) : RE X xc e (cM d) := fun W ok => pe_imp (h W ok) fun σ H Q ⟨g, S0, e, S, rel, q⟩ =>
  q g σ H rfl (.refl g) rel v (r g)
theorem re_int {i : Int} {j : Nat} {pos : Pos} : RE X xc (.Constant (.int i) j pos) (cM (.int i)) := re_c (fun _ _ => pe_int) fun _ => .int
theorem re_bl {b : Bool} {j : Nat} {pos : Pos} : RE X xc (.Constant (.bool b) j pos) (cM (.bl b)) := re_c (fun _ _ => pe_bl) fun _ => .bl
theorem re_non {j : Nat} {pos : Pos} : RE X xc (.Constant .none j pos) (cM .non) := re_c (fun _ _ => pe_non) fun _ => .non
theorem re_str {s : String} {j : Nat} {pos : Pos} : RE X xc (.Constant (.str (nm s)) j pos) (cM (.str (cps s))) := re_c (fun _ _ => pe_str) fun _ => by rw [nm_cps]; exact .str
theorem re_raw {i : Nat} {x : Str} {pos : Pos} (hN : X.N[i]? = some x := by rfl) (hv : Vis X.env.scope x := by first | exact Or.inl rfl | exact Or.inr (Or.inl rfl) | exact Or.inr (Or.inr rfl)) (hd : (x == ("__debug__" : Str)) = false := by decide)
    (hcd : (x == ("__classdict__" : Str)) = false := by decide) : RE X xc (.Name x pos) (rawM i) := fun W ok => pe_imp (pe_var hN hv hd hcd) fun σ H Q ⟨g, S0, e, S, rel, q⟩ => by
  unfold rawM at q
  split at q
  · rename_i d he
    obtain ⟨v, h1, h2⟩ := rel.sl i d he
    exact ⟨v, h1, q g σ H rfl (.refl g) rel v h2⟩
  · exact q.elim
theorem re_var {i : Nat} {x : Str} {pos : Pos} (hN : X.N[i]? = some x := by rfl) (hv : Vis X.env.scope x := by first | exact Or.inl rfl | exact Or.inr (Or.inl rfl) | exact Or.inr (Or.inr rfl)) (hd : (x == ("__debug__" : Str)) = false := by decide)
    (hcd : (x == ("__classdict__" : Str)) = false := by decide) : RE X xc (.Name x pos) (varM i) := fun W ok => pe_imp (pe_var hN hv hd hcd) fun σ H Q ⟨g, S0, e, S, rel, q⟩ => by
  unfold varM at q
  split at q
  · rename_i j he
    obtain ⟨v, h1, h2⟩ := rel.sl i _ he
    split at q
    · rename_i xs hs
      obtain ⟨a, hm, hF, vs, ha, hr⟩ := rel.st.at_ hs
      cases h2 with
      | ref hm' =>
        rw [hm] at hm'; cases hm'
        have hi : i < e.length := (List.getElem?_eq_some_iff.mp he).1
        have st' := rel.st.frost hs rfl hm ha
        have le' : g.le (g.frz a (.lst vs)) := Gh.le_frz hF
        have rep : Rep X.K X.mg (g.frz a (.lst vs)) (.lst xs) (.ref a) := (hr.mono le').lst (by show upd g.F a (.lst vs) a = _; exact upd_same)
        have kf : KFr S (S.set j .dead) := (KFr.refl S).set hs (.inr fun _ _ => rfl)
        have rel' := (rel.move le' st' kf).told hi rep h1
        exact ⟨_, h1, q _ σ H rfl le' rel' _ rep⟩
    · exact ⟨v, h1, q g σ H rfl (.refl g) rel v h2⟩
  · rename_i d _ he
    obtain ⟨v, h1, h2⟩ := rel.sl i d he
    exact ⟨v, h1, q g σ H rfl (.refl g) rel v h2⟩
  · exact q.elim
theorem re_glob {x : String} {v : V} {u : Value} {pos : Pos} (hg : Gl X (nm x)) (hm : X.mg (nm x) = some u) (r : RelV v u) (hd : (nm x == ("__debug__" : Str)) = false := by decide +kernel) : RE X xc (.Name (nm x) pos) (cM (.gl x)) :=
  re_c (fun _ _ => pe_glob hg hm r hd) fun _ => .gl hm r
/-- a whole number of the module -/
theorem re_globI {x : Str} {i : Int} {t : Tok} {pos : Pos} (hg : Gl X x) (hm : X.mg x = some (.int i t)) (hd : (x == ("__debug__" : Str)) = false := by decide +kernel) : RE X xc (.Name x pos) (cM (.int i)) :=
  re_c (fun _ _ => pe_glob (v := .int i) hg hm ⟨t, rfl⟩ hd) fun _ => .int

/-! ### operators -/
/-- what an operation on values asks, by meanings -/
def OpL (K : PySem.W.Frag) (mg : Str → Option Value) (f : Sto → D → D → Option D) (r : R2) : Prop :=
  ∀ (g : Gh) (S : Sto) (H : Hp) (x y z : D) (v u : V) (Q : VK), SRel K mg g S H → Rep K mg g x v → Rep K mg g y u → f S x y = some z → (∀ g' H' w, Ext K mg g H g' H' → Rep K mg g' z w → Q w H') → r v u H Q
def UnL (K : PySem.W.Frag) (mg : Str → Option Value) (f : Sto → D → Option D) (r : V → Hp → VK → Prop) : Prop :=
  ∀ (g : Gh) (S : Sto) (H : Hp) (x z : D) (v : V) (Q : VK), SRel K mg g S H → Rep K mg g x v → f S x = some z → (∀ g' H' w, Ext K mg g H g' H' → Rep K mg g' z w → Q w H') → r v H Q
def CallL (K : PySem.W.Frag) (mg : Str → Option Value) (f : Sto → List D → Option D) (r : List V → Hp → VK → Prop) : Prop :=
  ∀ (g : Gh) (S : Sto) (H : Hp) (xs : List D) (z : D) (vs : List V) (Q : VK), SRel K mg g S H → Reps K mg g xs vs → f S xs = some z → (∀ g' H' w, Ext K mg g H g' H' → Rep K mg g' z w → Q w H') → r vs H Q
theorem two {W : WX} {fa fb : SE} {f : Sto → D → D → Option D} {r : R2} (hr : OpL X.K X.mg f r) : ∀ σ H Q, tI X xc W (op2 f fa fb) σ H Q → tOp r (tI X xc W fa) (tI X xc W fb) σ H Q := fun σ H Q ⟨g, S0, e, S, rel, q⟩ =>
  ⟨g, S0, e, S, rel, q.bind.imp (fun _ t => t) fun g1 x e1 S1 σ1 H1 t1 l1 rel1 q1 v rv => by
    subst t1
    exact ⟨g1, S0, e1, S1, rel1, q1.bind.imp (fun _ t => t) fun g2 y e2 S2 σ2 H2 t2 l2 rel2 q2 u ru => by
      subst t2
      obtain ⟨z, hz, q3⟩ := q2.opt
      exact hr g2 S2 H2 x y z v u Q rel2.st (rv.mono l2) ru hz fun g3 H3 w x3 rw3 => q3 g3 _ H3 rfl x3.le (rel2.ext x3) w rw3⟩⟩
theorem one {W : WX} {fa : SE} {f : Sto → D → Option D} {r : V → Hp → VK → Prop} (hr : UnL X.K X.mg f r) : ∀ σ H Q, tI X xc W (op1 f fa) σ H Q → tUn r (tI X xc W fa) σ H Q := fun σ H Q ⟨g, S0, e, S, rel, q⟩ =>
  ⟨g, S0, e, S, rel, q.bind.imp (fun _ t => t) fun g1 x e1 S1 σ1 H1 t1 l1 rel1 q1 v rv => by
    subst t1
    obtain ⟨z, hz, q3⟩ := q1.opt
    exact hr g1 S1 H1 x z v Q rel1.st rv hz fun g3 H3 w x3 rw3 => q3 g3 _ H3 rfl x3.le (rel1.ext x3) w rw3⟩
theorem re_op {a b : Expr} {op : Operator} {pos : Pos} {fa fb : SE} {f : Sto → D → D → Option D} {r : R2} (ho : OpR X (binaryOp op) r) (hr : OpL X.K X.mg f r) (ha : RE X xc a fa) (hb : RE X xc b fb) : RE X xc (.BinOp a op b pos) (op2 f fa fb) :=
  fun W ok => pe_imp (pe_op ho (ha W ok) (hb W ok)) (two hr)
theorem re_un {a : Expr} {op : UnaryOp} {pos : Pos} {fa : SE} {f : Sto → D → Option D} {r : V → Hp → VK → Prop} (ho : UnR X (unaryOp op) r) (hr : UnL X.K X.mg f r) (ha : RE X xc a fa) : RE X xc (.UnaryOp op a pos) (op1 f fa) :=
  fun W ok => pe_imp (pe_un ho (ha W ok)) (one hr)

/-! ### arguments, displays, calls of built-ins -/
theorem ra_nil : RA X xc [] nilA := fun W ok => pa_imp pa_nil fun σ H Q ⟨g, S0, e, S, rel, q⟩ => q g σ H rfl (.refl g) rel [] .nil
theorem ra_cons {e : Expr} {es : List Expr} {f : SE} {fs : SA} (h : RE X xc e f) (hr : RA X xc es fs) (hs : starEach (e :: es) X.env = (false, eval e X.env) :: starEach es X.env := by rfl) : RA X xc (e :: es) (consA f fs) :=
  fun W ok => pa_imp (pa_cons (h W ok) (hr W ok) hs) fun σ H Q ⟨g, S0, e, S, rel, q⟩ =>
  ⟨g, S0, e, S, rel, q.bind.imp (fun _ t => t) fun g1 x e1 S1 σ1 H1 t1 l1 rel1 q1 v rv => by
    subst t1
    exact ⟨g1, S0, e1, S1, rel1, q1.bind.imp (fun _ t => t) fun g2 ys e2 S2 σ2 H2 t2 l2 rel2 q2 us ru => by
      subst t2
      exact q2 g2 _ H2 rfl (.refl g2) rel2 (v :: us) (.cons (rv.mono l2) ru)⟩⟩
theorem line_eq : line = sizeLine := by rw [sizeLine_eq]; rfl
theorem re_tup {es : List Expr} {k : Nat} {pos : Pos} {fs : SA} (h : RA X xc es fs) : RE X xc (.Tuple es k pos) (tupM fs) := fun W ok => pe_imp (pe_tup (h W ok)) fun σ H Q ⟨g, S0, e, S, rel, q⟩ =>
  ⟨g, S0, e, S, rel, q.bind.imp (fun _ t => t) fun g1 xs e1 S1 σ1 H1 t1 l1 rel1 q1 vs rvs => by
    subst t1
    by_cases hl : xs.length ≤ line
    · rw [if_pos hl] at q1
      refine ⟨by rw [rvs.len, ← line_eq]; exact hl, fun p hp => ?_⟩
      have x := Ext.frz (o := .tup vs) rel1.st hp
      exact q1 _ _ _ rfl x.le (rel1.ext x) _ ((rvs.mono x.le).tup (.inl (.inl (by show upd g1.F p _ p = _; exact upd_same))))
    · rw [if_neg hl] at q1
      exact q1.elim⟩
/-- a new list: what its items are -/
def tLI (X : Cx) (xc : Xc) (W : WX) (f : SA) : TE := fun σ H Q => ∃ g S0 e S, Rel X.K X.mg xc g S0 e S σ H ∧ Post X.K X.mg xc W S0 (· = σ) g (f S0.length e S) (fun g' xs _ _ _ H' => ∀ p vs, H' p = none → Reps X.K X.mg g' xs vs → Q (.ref p) (upd H' p (.lst vs)))
def RL (X : Cx) (xc : Xc) (e : Expr) (f : SA) : Prop := ∀ W, Ok X W → PE X e (tLI X xc W f)
theorem re_frz {e : Expr} {f : SA} (h : RL X xc e f) : RE X xc e (frzM f) := fun W ok => pe_imp (h W ok) fun σ H Q ⟨g, S0, e, S, rel, q⟩ =>
  ⟨g, S0, e, S, rel, q.bind.imp (fun _ t => t) fun g1 xs e1 S1 σ1 H1 t1 l1 rel1 q1 p vs hp rvs => by
    have x := Ext.frz (o := .lst vs) rel1.st hp
    exact q1 _ _ _ t1 x.le (rel1.ext x) _ ((rvs.mono x.le).lst (by show upd g1.F p _ p = _; exact upd_same))⟩
theorem re_own {e : Expr} {f : SA} (w : Bool) (h : RL X xc e f) : RE X xc e (ownM w f) := fun W ok => pe_imp (h W ok) fun σ H Q ⟨g, S0, e, S, rel, q⟩ =>
  ⟨g, S0, e, S, rel, q.bind.imp (fun _ t => t) fun g1 xs e1 S1 σ1 H1 t1 l1 rel1 q1 p vs hp rvs => by
    have hm : (g1.new p).m[S1.length]? = some p := by
      show (g1.m ++ [p])[S1.length]? = some p
      rw [← rel1.st.len, List.getElem?_append_right (Nat.le_refl _)]
      simp
    have st' := rel1.st.new (o := .lst vs) (ob := .lst w xs) hp rfl ⟨rel1.st.fresh hp, vs, upd_same, rvs.mono Gh.le_new⟩
    have k : KFr S1 (S1 ++ [.lst w xs]) := (KFr.refl S1).push _
    exact q1 _ _ _ t1 Gh.le_new (rel1.move Gh.le_new st' k) _ (.ref hm)⟩
theorem rl_lst {es : List Expr} {pos : Pos} {fs : SA} (h : RA X xc es fs) : RL X xc (.List es pos) (lstA fs) := fun W ok => pe_imp (pe_lst (h W ok)) fun σ H Q ⟨g, S0, e, S, rel, q⟩ =>
  ⟨g, S0, e, S, rel, q.bind.imp (fun _ t => t) fun g1 xs e1 S1 σ1 H1 t1 l1 rel1 q1 vs rvs => by
    subst t1
    by_cases hl : xs.length ≤ line
    · rw [if_pos hl] at q1
      exact ⟨by rw [rvs.len, ← line_eq]; exact hl, fun p hp => q1 g1 _ H1 rfl (.refl g1) rel1 p vs hp rvs⟩
    · rw [if_neg hl] at q1
      exact q1.elim⟩
theorem many {W : WX} {fs : SA} {f : Sto → List D → Option D} {r : List V → Hp → VK → Prop} (hr : CallL X.K X.mg f r) : ∀ σ H Q, tI X xc W (fnA f fs) σ H Q → tCB r (tAI X xc W fs) σ H Q := fun σ H Q ⟨g, S0, e, S, rel, q⟩ =>
  ⟨g, S0, e, S, rel, q.bind.imp (fun _ t => t) fun g1 xs e1 S1 σ1 H1 t1 l1 rel1 q1 vs rvs => by
    subst t1
    obtain ⟨z, hz, q3⟩ := q1.opt
    exact hr g1 S1 H1 xs z vs Q rel1.st rvs hz fun g3 H3 w x3 rw3 => q3 g3 _ H3 rfl x3.le (rel1.ext x3) w rw3⟩
theorem re_callB {x : Str} {e : Expr} {es : List Expr} {p pos : Pos} {id : String} {fs : SA} {f : Sto → List D → Option D} {r : List V → Hp → VK → Prop} (hc : CallR X (.builtin id) r) (hr : CallL X.K X.mg f r) (hg : Gl X x) (hm : X.mg x = none) (hv : bootBuiltins x = some (.builtin id))
    (ha : RA X xc (e :: es) fs) (hn : x ≠ "__name__" := by decide) (hdb : (x == ("__debug__" : Str)) = false := by decide) (he : starEach (e :: es) X.env = (false, eval e X.env) :: starEach es X.env := by rfl) (hpl : (backTo pos (starEach es X.env)).any (·.1) = false := by rfl) :
    RE X xc (.Call (.Name x p) (e :: es) [] pos) (fnA f fs) := fun W ok => pe_imp (pe_callB hc hg hm hv (ha W ok) hn hdb he hpl) (many hr)
theorem re_callTy {x : Str} {e : Expr} {es : List Expr} {p pos : Pos} {T : String} {fs : SA} {f : Sto → List D → Option D} {r : List V → Hp → VK → Prop} (hc : CallR X (.type T) r) (hr : CallL X.K X.mg f r) (hg : Gl X x) (hm : X.mg x = none) (hv : bootBuiltins x = some (.type T))
    (ha : RA X xc (e :: es) fs) (hn : x ≠ "__name__" := by decide) (hdb : (x == ("__debug__" : Str)) = false := by decide) (he : starEach (e :: es) X.env = (false, eval e X.env) :: starEach es X.env := by rfl) (hpl : (backTo pos (starEach es X.env)).any (·.1) = false := by rfl) :
    RE X xc (.Call (.Name x p) (e :: es) [] pos) (fnA f fs) := fun W ok => pe_imp (pe_callTy hc hg hm hv (ha W ok) hn hdb he hpl) (many hr)

/-! ### tests -/
def OpB (K : PySem.W.Frag) (mg : Str → Option Value) (f : Sto → D → D → Option Bool) (r : R2) : Prop :=
  ∀ (g : Gh) (S : Sto) (H : Hp) (x y : D) (k : Bool) (v u : V) (Q : VK), SRel K mg g S H → Rep K mg g x v → Rep K mg g y u → f S x y = some k → Q (.bl k) H → r v u H Q
theorem re_bool {e : Expr} {t : ST} (h : ∀ W, Ok X W → ∃ te, PE X e te ∧ ∀ σ H (Q : VK), tTI X xc W t σ H (fun k H' => Q (.bl k) H') → te σ H Q) : RE X xc e (boolM t) := fun W ok => by
  obtain ⟨te, h1, h2⟩ := h W ok
  exact pe_imp h1 fun σ H Q ⟨g, S0, e, S, rel, q⟩ => h2 σ H Q ⟨g, S0, e, S, rel, q.bind.imp (fun _ t => t) fun g1 k e1 S1 σ1 H1 t1 l1 rel1 q1 => q1 g1 σ1 H1 t1 (.refl g1) rel1 _ .bl⟩
theorem twoB {W : WX} {fa fb : SE} {f : Sto → D → D → Option Bool} {r : R2} (hr : OpB X.K X.mg f r) : ∀ σ H (Q : Bool → Hp → Prop), tTI X xc W (cmpT f fa fb) σ H Q → ∀ Q' : VK, (∀ k H', Q k H' → Q' (.bl k) H') → tOp r (tI X xc W fa) (tI X xc W fb) σ H Q' := fun σ H Q ⟨g, S0, e, S, rel, q⟩ Q' hQ =>
  ⟨g, S0, e, S, rel, q.bind.imp (fun _ t => t) fun g1 x e1 S1 σ1 H1 t1 l1 rel1 q1 v rv => by
    subst t1
    exact ⟨g1, S0, e1, S1, rel1, q1.bind.imp (fun _ t => t) fun g2 y e2 S2 σ2 H2 t2 l2 rel2 q2 u ru => by
      subst t2
      obtain ⟨k, hk, q3⟩ := q2.opt
      exact hr g2 S2 H2 x y k v u Q' rel2.st (rv.mono l2) ru hk (hQ k H2 (q3 g2 _ H2 rfl (.refl g2) rel2))⟩⟩
theorem rt_cmp {a b : Expr} {op : CmpOp} {pos : Pos} {fa fb : SE} {f : Sto → D → D → Option Bool} {r : R2} (ho : OpR X (compareOp op) r) (hr : OpB X.K X.mg f r) (ha : RE X xc a fa) (hb : RE X xc b fb) (hm : behindInMarks op b = false) :
    RT X xc (.Compare a [op] [b] pos) (cmpT f fa fb) := fun W ok => pt_imp (pt_cmpR ho (ha W ok) (hb W ok) hm) fun σ H Q q => twoB hr σ H Q q _ fun k H' h => ⟨k, rfl, h⟩
theorem re_cmp {a b : Expr} {op : CmpOp} {pos : Pos} {fa fb : SE} {f : Sto → D → D → Option Bool} {r : R2} (ho : OpR X (compareOp op) r) (hr : OpB X.K X.mg f r) (ha : RE X xc a fa) (hb : RE X xc b fb) (hm : behindInMarks op b = false) :
    RE X xc (.Compare a [op] [b] pos) (boolM (cmpT f fa fb)) := re_bool fun W ok => ⟨_, pe_cmpR ho (ha W ok) (hb W ok) hm, fun σ H Q q => twoB hr σ H _ q Q fun k H' h => h⟩
theorem threeB {W : WX} {fa fb fc : SE} {f f' : Sto → D → D → Option Bool} {r r' : R2} (hr : OpB X.K X.mg f r) (hr' : OpB X.K X.mg f' r') : ∀ σ H (Q : Bool → Hp → Prop), tTI X xc W (chnT f f' fa fb fc) σ H Q → ∀ Q' : VK, (∀ k H', Q k H' → Q' (.bl k) H') →
    tChain r r' (tI X xc W fa) (tI X xc W fb) (tI X xc W fc) σ H Q' := fun σ H Q ⟨g, S0, e, S, rel, q⟩ Q' hQ =>
  ⟨g, S0, e, S, rel, q.bind.imp (fun _ t => t) fun g1 x e1 S1 σ1 H1 t1 l1 rel1 q1 v rv => by
    subst t1
    exact ⟨g1, S0, e1, S1, rel1, q1.bind.imp (fun _ t => t) fun g2 y e2 S2 σ2 H2 t2 l2 rel2 q2 u ru => by
      subst t2
      obtain ⟨k, hk, q3⟩ := q2.bind.opt
      refine hr g2 S2 H2 x y k v u _ rel2.st (rv.mono l2) ru hk ⟨k, rfl, ?_⟩
      have q4 := q3 g2 _ H2 rfl (.refl g2) rel2
      cases k with
      | false =>
        rw [if_neg Bool.false_ne_true] at q4 ⊢
        exact hQ _ _ (q4 g2 _ H2 rfl (.refl g2) rel2)
      | true =>
        rw [if_pos rfl] at q4 ⊢
        exact ⟨g2, S0, e2, S2, rel2, q4.bind.imp (fun _ t => t) fun g3 z e3 S3 σ3 H3 t3 l3 rel3 q5 w rw' => by
          subst t3
          obtain ⟨k', hk', q6⟩ := q5.opt
          exact hr' g3 S3 H3 y z k' u w Q' rel3.st (ru.mono l3) rw' hk' (hQ k' H3 (q6 g3 _ H3 rfl (.refl g3) rel3))⟩⟩⟩
theorem rt_chn {a b c : Expr} {op op' : CmpOp} {pos : Pos} {fa fb fc : SE} {f f' : Sto → D → D → Option Bool} {r r' : R2} (ho : OpR X (compareOp op) r) (hr : OpB X.K X.mg f r) (ho' : OpR X (compareOp op') r') (hr' : OpB X.K X.mg f' r') (ha : RE X xc a fa) (hb : RE X xc b fb) (hc : RE X xc c fc)
    (hm : lastMarks [op, op'] [b, c] = false := by with_unfolding_all rfl) : RT X xc (.Compare a [op, op'] [b, c] pos) (chnT f f' fa fb fc) := fun W ok => pt_imp (pt_chain ho ho' (ha W ok) (hb W ok) (hc W ok) hm) fun σ H Q q => threeB hr hr' σ H Q q _ fun k H' h => ⟨k, rfl, h⟩
theorem re_chn {a b c : Expr} {op op' : CmpOp} {pos : Pos} {fa fb fc : SE} {f f' : Sto → D → D → Option Bool} {r r' : R2} (ho : OpR X (compareOp op) r) (hr : OpB X.K X.mg f r) (ho' : OpR X (compareOp op') r') (hr' : OpB X.K X.mg f' r') (ha : RE X xc a fa) (hb : RE X xc b fb) (hc : RE X xc c fc)
    (hm : lastMarks [op, op'] [b, c] = false := by with_unfolding_all rfl) : RE X xc (.Compare a [op, op'] [b, c] pos) (boolM (chnT f f' fa fb fc)) := re_bool fun W ok => ⟨_, pe_chain ho ho' (ha W ok) (hb W ok) (hc W ok) hm, fun σ H Q q => threeB hr hr' σ H _ q Q fun k H' h => h⟩
theorem mkS_len (s : List Nat) : (mkS s).length = s.length := by show s.toArray.size = _; simp
theorem mkB_len (s : List Nat) : (mkB s).size = s.length := by simp [mkB]
theorem Reps.emp {K : PySem.W.Frag} {mg : Str → Option Value} {g : Gh} {ds : List D} {vs : List V} (r : Reps K mg g ds vs) : vs.isEmpty = ds.isEmpty := by
  cases ds with
  | nil => rw [r.inv0]; rfl
  | cons d ds =>
    obtain ⟨v, r', rfl, _⟩ := r.inv
    rfl
theorem Reps.of_lst {K : PySem.W.Frag} {mg : Str → Option Value} {g : Gh} {xs : List D} {v : V} (h : Rep K mg g (.lst xs) v) : ∃ a vs, v = .ref a ∧ g.F a = some (.lst vs) ∧ Reps K mg g xs vs := by
  cases h with
  | lst h n k => exact ⟨_, _, rfl, h, n, k⟩
theorem Reps.of_frz {K : PySem.W.Frag} {mg : Str → Option Value} {g : Gh} {xs : List D} {v : V} (h : Rep K mg g (.frz xs) v) : ∃ a vs, v = .ref a ∧ SqL K g.F a vs ∧ Reps K mg g xs vs := by
  cases h with
  | frz h n k => exact ⟨_, _, rfl, h, n, k⟩
theorem Reps.of_tup {K : PySem.W.Frag} {mg : Str → Option Value} {g : Gh} {xs : List D} {v : V} (h : Rep K mg g (.tup xs) v) : ∃ a vs, v = .ref a ∧ SqT K g.F a vs ∧ Reps K mg g xs vs := by
  cases h with
  | tup h n k => exact ⟨_, _, rfl, h, n, k⟩
theorem deref_ref (S : Sto) (i : Nat) : deref S (.ref i) = match S[i]? with | some (.lst _ xs) => .lst xs | _ => .ref i := rfl
/-- a value read where it stands: a list of the store as a tree, over the whole heap -/
inductive Now (K : PySem.W.Frag) (mg : Str → Option Value) (g : Gh) (H : Hp) : D → V → Prop
  | lst {a : Addr} {vs : List V} {ds : List D} : H a = some (.lst vs) → Reps K mg g ds vs → Now K mg g H (.lst ds) (.ref a)
  | rep {d : D} {v : V} : (∀ ds, d ≠ .lst ds) → Rep K mg g d v → Now K mg g H d v
theorem Now.of {K : PySem.W.Frag} {mg : Str → Option Value} {g : Gh} {S : Sto} {H : Hp} {d : D} {v : V} (r : SRel K mg g S H) (h : Rep K mg g d v) : Now K mg g H (deref S d) v := by
  cases d with
  | lst xs =>
    obtain ⟨a, vs, rfl, h1, h2⟩ := Reps.of_lst h
    exact .lst (r.sub _ _ h1) h2
  | ref i =>
    cases h with
    | ref hm =>
      rw [deref_ref]
      cases hs : S[i]? with
      | none => exact .rep (fun _ q => by cases q) (.ref hm)
      | some o =>
        cases o with
        | lst w xs =>
          obtain ⟨_, vs, h1, h2⟩ := r.ob _ _ _ hs hm
          exact .lst h1 h2
        | dead => exact .rep (fun _ q => by cases q) (.ref hm)
        | ins c fs => exact .rep (fun _ q => by cases q) (.ref hm)
  | _ => exact .rep (fun _ q => by cases q) h
theorem sub_SqL {K : PySem.W.Frag} {mg : Str → Option Value} {g : Gh} {S : Sto} {H : Hp} {a : Addr} {vs : List V} (r : SRel K mg g S H) (h : SqL K g.F a vs) : SqL K H a vs := ex_SqL r.sub h
theorem sub_SqT {K : PySem.W.Frag} {mg : Str → Option Value} {g : Gh} {S : Sto} {H : Hp} {a : Addr} {vs : List V} (r : SRel K mg g S H) (h : SqT K g.F a vs) : SqT K H a vs := ex_SqT r.sub h
theorem truth_ok {K : PySem.W.Frag} {mg : Str → Option Value} {g : Gh} {S : Sto} {H : Hp} {d : D} {v : V} {k : Bool} (r : SRel K mg g S H) (h : Rep K mg g d v) (e : truth S d = some k) : TruV K v H k := by
  have n := Now.of r h
  unfold truth at e
  revert e n
  generalize deref S d = d'
  intro e n
  cases n with
  | @lst a vs ds h1 h2 =>
    cases e
    exact .inl ⟨vs, SqL.of h1, by rw [h2.emp]⟩
  | rep nl h =>
    cases h with
    | non => cases e; rfl
    | bl => cases e; rfl
    | int => cases e; rfl
    | @str s =>
      have e' : (if s.length ≤ line then some (s.length != 0) else none) = some k := e
      split at e'
      · rename_i hl
        cases e'
        refine ⟨by rw [mkS_len, ← line_eq]; exact hl, ?_⟩
        rw [mkS_len]; cases s <;> simp <;> omega
      · cases e'
    | @byt s hb =>
      have e' : (if s.length ≤ line then some (s.length != 0) else none) = some k := e
      split at e'
      · rename_i hl
        cases e'
        refine ⟨by rw [mkB_len, ← line_eq]; exact hl, ?_⟩
        rw [mkB_len]; cases s <;> simp <;> omega
      · cases e'
    | lst h1 h2 h3 => exact absurd rfl (nl _)
    | @tup a vs ds h1 h2 h3 =>
      cases e
      exact .inr (.inl ⟨vs, sub_SqT r h1, by rw [(Reps.mk h2 h3 : Reps K mg g ds vs).emp]⟩)
    | _ => cases e
theorem rt_tst {a : Expr} {fa : SE} (ha : RE X xc a fa) (he : ∀ whole, isTrue a X.env whole = (do let v ← whole; standAt a.pos; holding [v] (truthy v)) := by intro _; rfl) : RT X xc a (tstM fa) := fun W ok => pt_imp (pt_truth (ha W ok) he) fun σ H Q ⟨g, S0, e, S, rel, q⟩ =>
  ⟨g, S0, e, S, rel, q.bind.imp (fun _ t => t) fun g1 x e1 S1 σ1 H1 t1 l1 rel1 q1 v rv => by
    obtain ⟨k, hk, q3⟩ := q1.opt
    exact ⟨k, truth_ok rel1.st rv hk, q3 g1 σ1 H1 t1 (.refl g1) rel1⟩⟩
theorem rt_not {a : Expr} {pos : Pos} {t : ST} (h : RT X xc a t) : RT X xc (.UnaryOp .Not a pos) (notT t) := fun W ok => pt_imp (pt_not (h W ok)) fun σ H Q ⟨g, S0, e, S, rel, q⟩ =>
  ⟨g, S0, e, S, rel, q.bind.imp (fun _ t => t) fun g1 k e1 S1 σ1 H1 t1 l1 rel1 q1 => q1 g1 σ1 H1 t1 (.refl g1) rel1⟩
theorem rt_w {a : Expr} {t : ST} (h : RW X xc a t) : RT X xc a t := fun W ok => (h W ok).pt
theorem rw_and1 {a : Expr} {pos : Pos} {t : ST} (h : RT X xc a t) : RW X xc (.BoolOp .And [a] pos) t := fun W ok => pw_and1 (h W ok)
theorem rw_or1 {a : Expr} {pos : Pos} {t : ST} (h : RT X xc a t) : RW X xc (.BoolOp .Or [a] pos) t := fun W ok => pw_or1 (h W ok)
theorem rw_and {a b : Expr} {rest : List Expr} {pos : Pos} {t u : ST} (h : RT X xc a t) (h2 : RW X xc (.BoolOp .And (b :: rest) pos) u) : RW X xc (.BoolOp .And (a :: b :: rest) pos) (andT t u) := fun W ok => pw_imp (pw_and (h W ok) (h2 W ok)) fun σ H Q ⟨g, S0, e, S, rel, q⟩ =>
  ⟨g, S0, e, S, rel, q.bind.imp (fun _ t => t) fun g1 k e1 S1 σ1 H1 t1 l1 rel1 q1 => by
    subst t1
    cases k with
    | true => rw [if_pos rfl] at q1 ⊢; exact ⟨g1, S0, e1, S1, rel1, q1⟩
    | false => rw [if_neg Bool.false_ne_true] at q1 ⊢; exact q1 g1 _ H1 rfl (.refl g1) rel1⟩
theorem rw_or {a b : Expr} {rest : List Expr} {pos : Pos} {t u : ST} (h : RT X xc a t) (h2 : RW X xc (.BoolOp .Or (b :: rest) pos) u) : RW X xc (.BoolOp .Or (a :: b :: rest) pos) (orT t u) := fun W ok => pw_imp (pw_or (h W ok) (h2 W ok)) fun σ H Q ⟨g, S0, e, S, rel, q⟩ =>
  ⟨g, S0, e, S, rel, q.bind.imp (fun _ t => t) fun g1 k e1 S1 σ1 H1 t1 l1 rel1 q1 => by
    subst t1
    cases k with
    | true => rw [if_pos rfl] at q1 ⊢; exact q1 g1 _ H1 rfl (.refl g1) rel1
    | false => rw [if_neg Bool.false_ne_true] at q1 ⊢; exact ⟨g1, S0, e1, S1, rel1, q1⟩⟩
theorem re_ifE {c a b : Expr} {pos : Pos} {t : ST} {fa fb : SE} (hc : RT X xc c t) (ha : RE X xc a fa) (hb : RE X xc b fb) : RE X xc (.IfExp c a b pos) (ifE t fa fb) := fun W ok => pe_imp (pe_ifExp (hc W ok) (ha W ok) (hb W ok)) fun σ H Q ⟨g, S0, e, S, rel, q⟩ =>
  ⟨g, S0, e, S, rel, q.bind.imp (fun _ t => t) fun g1 k e1 S1 σ1 H1 t1 l1 rel1 q1 => by
    subst t1
    cases k with
    | true => rw [if_pos rfl] at q1 ⊢; exact ⟨g1, S0, e1, S1, rel1, q1⟩
    | false => rw [if_neg Bool.false_ne_true] at q1 ⊢; exact ⟨g1, S0, e1, S1, rel1, q1⟩⟩
theorem Post.bool {K : PySem.W.Frag} {mg : Str → Option Value} {xc : Xc} {W : WX} {S0 : Sto} {T : L2.St → Prop} {g : Gh} {t : ST} {b : Nat} {e : Env} {S : Sto} {Φ : Gh → Bool → Env → Sto → L2.St → Hp → Prop} (h : Post K mg xc W S0 T g (t b e S) Φ) :
    Post K mg xc W S0 T g (boolM t b e S) (fun g' d e S σ H => ∀ v, Rep K mg g' d v → ∃ k, v = .bl k ∧ Φ g' k e S σ H) := by
  unfold boolM
  revert h
  cases t b e S with
  | stuck => exact fun h => h
  | exc c fs e1 S1 => exact fun h => h
  | ok k e1 S1 =>
    intro h g1 σ1 H1 t1 l1 rel1 v rv
    cases rv
    exact ⟨k, rfl, h g1 σ1 H1 t1 l1 rel1⟩
/-- not a, as a value -/
theorem re_not {a : Expr} {pos : Pos} {t : ST} (h : RE X xc a (boolM t)) : RE X xc (.UnaryOp .Not a pos) (boolM (notT t)) := re_bool fun W ok => ⟨_, pe_not (h W ok), fun σ H Q ⟨g, S0, e, S, rel, q⟩ =>
  ⟨g, S0, e, S, rel, (Post.bool (Post.bind q)).imp (fun _ t => t) fun g1 d e1 S1 σ1 H1 t1 l1 rel1 q1 v rv => by
    obtain ⟨k, rfl, q2⟩ := q1 v rv
    exact ⟨k, rfl, q2 g1 σ1 H1 t1 (.refl g1) rel1⟩⟩⟩

/-! ### statements -/
theorem rss_nil : RSs X xc [] nxM := fun W ok => pss_imp pss_nil fun D σ H ⟨g, S0, e, S, rel, q⟩ => q g σ H trivial (.refl g) rel
theorem rss_one {s : Stmt} {f : SS} (h : RS X xc s f) : RSs X xc [s] f := fun W ok => pss_one (h W ok)
theorem rss_cons {s : Stmt} {ss : List Stmt} {f fs : SS} (h : RS X xc s f) (hr : RSs X xc ss fs) : RSs X xc (s :: ss) (seqM f fs) := fun W ok => pss_imp (pss_cons (h W ok) (hr W ok)) fun D σ H ⟨g, S0, e, S, rel, q⟩ =>
  ⟨g, S0, e, S, rel, q.bind.imp (fun _ t => t) fun g1 fl e1 S1 σ1 H1 t1 l1 rel1 q1 => by
    cases fl with
    | nx => exact ⟨g1, S0, e1, S1, rel1, q1⟩
    | ret d => exact q1 g1 σ1 H1 trivial (.refl g1) rel1
    | bk => exact q1 g1 σ1 H1 trivial (.refl g1) rel1
    | ct => exact q1 g1 σ1 H1 trivial (.refl g1) rel1⟩
theorem rs_pass {pos : Pos} : RS X xc (.Pass pos) nxM := fun W ok => ps_imp ps_pass fun D σ H ⟨g, S0, e, S, rel, q⟩ => q g σ H trivial (.refl g) rel
theorem rs_brk {pos : Pos} : RS X xc (.Break pos) brkM := fun W ok => ps_imp ps_break fun D σ H ⟨g, S0, e, S, rel, q⟩ => q g σ H trivial (.refl g) rel
theorem rs_cnt {pos : Pos} : RS X xc (.Continue pos) cntM := fun W ok => ps_imp ps_continue fun D σ H ⟨g, S0, e, S, rel, q⟩ => q g σ H trivial (.refl g) rel
theorem rs_expr {e : Expr} {pos : Pos} {f : SE} (h : RE X xc e f) (hs : swapsWith e none pos.line X.env = pure false := by rfl) : RS X xc (.Expr e pos) (exprM f) := fun W ok => ps_imp (ps_expr (h W ok) hs) fun D σ H ⟨g, S0, e, S, rel, q⟩ =>
  ⟨g, S0, e, S, rel, q.bind.imp (fun _ t => trivial) fun g1 d e1 S1 σ1 H1 t1 l1 rel1 q1 v rv => by
    subst t1
    exact q1 g1 _ H1 trivial (.refl g1) rel1⟩
theorem rs_ret {e : Expr} {pos : Pos} {f : SE} (h : RE X xc e f) : RS X xc (.Return (some e) pos) (retM f) := fun W ok => ps_imp (ps_ret (h W ok)) fun D σ H ⟨g, S0, e, S, rel, q⟩ =>
  ⟨g, S0, e, S, rel, q.bind.imp (fun _ t => trivial) fun g1 d e1 S1 σ1 H1 t1 l1 rel1 q1 v rv => q1 g1 σ1 H1 trivial (.refl g1) rel1 v rv⟩
theorem rs_retN {pos : Pos} : RS X xc (.Return none pos) retN := fun W ok => ps_imp ps_retN fun D σ H ⟨g, S0, e, S, rel, q⟩ => q g σ H trivial (.refl g) rel _ .non
theorem rs_if {c : Expr} {a b : List Stmt} {pos : Pos} {t : ST} {fa fb : SS} (hc : RT X xc c t) (ha : RSs X xc a fa) (hb : RSs X xc b fb) : RS X xc (.If c a b pos) (ifM t fa fb) := fun W ok => ps_imp (ps_if (hc W ok) (ha W ok) (hb W ok)) fun D σ H ⟨g, S0, e, S, rel, q⟩ =>
  ⟨g, S0, e, S, rel, q.bind.imp (fun _ t => trivial) fun g1 k e1 S1 σ1 H1 t1 l1 rel1 q1 => by
    subst t1
    cases k with
    | true => rw [if_pos rfl] at q1 ⊢; exact ⟨g1, S0, e1, S1, rel1, q1⟩
    | false => rw [if_neg Bool.false_ne_true] at q1 ⊢; exact ⟨g1, S0, e1, S1, rel1, q1⟩⟩
theorem rs_doc {x : Str} {j : Nat} {pos pos' : Pos} : RS X xc (.Expr (.Constant (.str x) j pos) pos') nxM := fun W ok => ps_imp ps_doc fun D σ H ⟨g, S0, e, S, rel, q⟩ => q g σ H trivial (.refl g) rel

/-! ### targets -/
theorem rg_name {i : Nat} {x : Str} {pos : Pos} (hN : X.N.Nodup) (hi : X.N[i]? = some x := by rfl) (hx : Loc X.env.scope x := by first | exact Or.inl rfl | exact Or.inr rfl) (hf : X.fn x = true ∨ X.env.scope.names.lookup x = some .local := by first | exact .inl rfl | exact .inr rfl | assumption) (hc : ∀ p, xc = some p → p.1 ≠ i := by first | exact (fun _ h => by cases h) | exact (fun _ h => by cases h; decide)) : RG X xc (.Name x pos) (gnM i) :=
  fun W ok => pg_imp (pg_name hN hi hx hf) fun v σ H Q ⟨g, S0, e, S, d, rel, rv, q⟩ => by
  unfold gnM at q
  by_cases hl : i < e.length
  · rw [if_pos hl] at q
    exact q g _ H trivial (.refl g) (rel.slot hl rv hc)
  · rw [if_neg hl] at q
    exact q.elim
theorem rgs_nil : RGs X xc [] gsNil := fun W ok => pgs_imp pgs_nil fun v σ H Q ⟨g, S0, e, S, ds, rel, rv, q⟩ => by
  unfold gsNil at q
  cases ds with
  | nil => exact ⟨rv.inv0, q g σ H trivial (.refl g) rel⟩
  | cons d ds => exact q.elim
theorem rgs_cons {t : Expr} {ts : List Expr} {f : SG} {fs : Nat → List D → Env → Sto → R Unit} (h : RG X xc t f) (hr : RGs X xc ts fs) (hs : (assignEach (t :: ts) X.env).map (·.2) = assign t X.env :: (assignEach ts X.env).map (·.2) := by rfl) : RGs X xc (t :: ts) (gsCons f fs) :=
  fun W ok => pgs_imp (pgs_cons (h W ok) (hr W ok) hs) fun vs σ H Q ⟨g, S0, e, S, ds, rel, rv, q⟩ => by
  unfold gsCons at q
  cases ds with
  | nil => exact q.elim
  | cons d ds =>
    obtain ⟨v, r', rfl, r1, r2⟩ := rv.inv
    exact ⟨v, r', rfl, g, S0, e, S, d, rel, r1, q.bind.imp (fun _ t => t) fun g1 _ e1 S1 σ1 H1 t1 l1 rel1 q1 => ⟨g1, S0, e1, S1, ds, rel1, r2.mono l1, q1⟩⟩
theorem rg_tup {es : List Expr} {k n : Nat} {pos : Pos} {fs : Nat → List D → Env → Sto → R Unit} (h : RGs X xc es fs) (hc : X.calm = true := by rfl) (hn : (assignEach es X.env).length = n := by rfl) (hst : (assignEach es X.env).findIdx? (·.1) = none := by rfl) :
    RG X xc (.Tuple es k pos) (gtM n fs) := fun W ok => pg_imp (pg_tup hc (h W ok) hn hst) fun v σ H Q ⟨g, S0, e, S, d, rel, rv, q⟩ => by
  unfold gtM at q
  cases d with
  | tup xs =>
    obtain ⟨a, vs, rfl, h1, h2⟩ := Reps.of_tup rv
    dsimp only at q
    by_cases hl : xs.length = n
    · rw [if_pos hl] at q
      exact ⟨a, vs, rfl, sub_SqT rel.st h1, h2.len.trans hl, g, S0, e, S, xs, rel, h2, q⟩
    · rw [if_neg hl] at q
      exact q.elim
  | _ => exact q.elim
theorem rs_asg {tg e : Expr} {pos : Pos} {f : SE} {h : SG} (he : RE X xc e f) (hg : RG X xc tg h) (hs : swapsWithSole [tg] e pos.line X.env = pure false := by rfl) (hw : swappedStores [tg] e X.env = pure none := by rfl) (h1 : (assignEach [tg] X.env).map (·.2) = [assign tg X.env] := by rfl) : RS X xc (.Assign [tg] e pos) (asgM f h) :=
  fun W ok => ps_imp (ps_asg (he W ok) (hg W ok) hs hw h1) fun D σ H ⟨g, S0, e, S, rel, q⟩ =>
  ⟨g, S0, e, S, rel, q.bind.imp (fun _ t => trivial) fun g1 d e1 S1 σ1 H1 t1 l1 rel1 q1 v rv => by
    subst t1
    exact ⟨g1, S0, e1, S1, d, rel1, rv, q1.bind.imp (fun _ t => t) fun g2 _ e2 S2 σ2 H2 t2 l2 rel2 q2 => q2 g2 σ2 H2 trivial (.refl g2) rel2⟩⟩
end
end Mir
end

/-! MirLoop -/
section
set_option Elab.async false
set_option linter.all false
set_option maxRecDepth 100000
/-! MirLoop: loops, defs, calls. -/
namespace Mir
open PySem L2

section
variable {X : Cx} {xc : Xc}
/-! ### while -/
theorem rs_while {c : Expr} {body : List Stmt} {pos : Pos} {t : ST} {f : SS} (hc : RT X xc c t) (hb : RSs X xc body f) : RS X xc (.While c body [] pos) (whileM t f) := fun W ok => ps_imp (ps_while ok.po (hc W ok) (hb W ok)) fun D σ H ⟨g, S0, e, S, rel, q⟩ => by
  have go : ∃ n, whileN t f S0.length n e S ≠ .stuck ∧ whileM t f S0.length e S = whileN t f S0.length n e S := by
    unfold whileM at q
    split at q
    · rename_i h
      exact ⟨_, Classical.choose_spec h, whileM_of (Classical.choose_spec h)⟩
    · exact q.elim
  obtain ⟨n, hn, he⟩ := go
  rw [he] at q
  clear he hn
  refine ⟨fun m σ H => ∃ g S0 e S, Rel X.K X.mg xc g S0 e S σ H ∧ Post X.K X.mg xc W S0 (fun _ => True) g (whileN t f S0.length m e S) (EndOf X.K X.mg D), ⟨n, g, S0, e, S, rel, q⟩, ?_⟩
  rintro m σ H ⟨g, S0, e, S, rel, q⟩
  cases m with
  | zero => exact q.elim
  | succ m =>
    refine ⟨g, S0, e, S, rel, (show Post X.K X.mg xc W S0 (fun _ => True) g ((t S0.length e S).bind fun k e S => if k = true then (f S0.length e S).bind fun fl e S => (match fl with
      | .nx => whileN t f S0.length m e S
      | .ct => whileN t f S0.length m e S
      | .bk => .ok .nx e S
      | .ret d => .ok (.ret d) e S) else .ok .nx e S) _ from q).bind.imp (fun _ t => trivial) fun g1 k e1 S1 σ1 H1 t1 l1 rel1 q1 => ?_⟩
    subst t1
    cases k with
    | false =>
      rw [if_neg Bool.false_ne_true] at q1 ⊢
      exact q1 g1 _ H1 trivial (.refl g1) rel1
    | true =>
      rw [if_pos rfl] at q1 ⊢
      refine ⟨fun σ' H' => ∃ g S0 e S, Rel X.K X.mg xc g S0 e S σ' H' ∧ Post X.K X.mg xc W S0 (fun _ => True) g (whileN t f S0.length m e S) (EndOf X.K X.mg D), fun σ' H' h => ⟨m, Nat.lt_succ_self m, h⟩, g1, S0, e1, S1, rel1, q1.bind.imp (fun _ t => t) fun g2 fl e2 S2 σ2 H2 t2 l2 rel2 q2 => ?_⟩
      cases fl with
      | nx => exact ⟨g2, S0, e2, S2, rel2, q2⟩
      | ct => exact ⟨g2, S0, e2, S2, rel2, q2⟩
      | bk => exact q2 g2 σ2 H2 trivial (.refl g2) rel2
      | ret d => exact q2 g2 σ2 H2 trivial (.refl g2) rel2

/-! ### what a for walks: the items are known ahead -/
structure Walks (K : PySem.W.Frag) (mg : Str → Option Value) (J : It) (xs : List D) (g : Gh) : Prop where
  go : ∀ (i : Nat) d g' S H, xs[i]? = some d → g.le g' → SRel K mg g' S H → J.go i H
  yld : ∀ (i : Nat) d g' S H x H', xs[i]? = some d → g.le g' → SRel K mg g' S H → J.yld i H x H' → ∃ g'', Ext K mg g' H g'' H' ∧ Rep K mg g'' d x
  stop : ∀ g' S H, g.le g' → SRel K mg g' S H → J.stop xs.length H
theorem Walks.le {K : PySem.W.Frag} {mg : Str → Option Value} {J : It} {xs : List D} {g g' : Gh} (w : Walks K mg J xs g) (l : g.le g') : Walks K mg J xs g' :=
  ⟨fun i d g2 S H h a b => w.go i d g2 S H h (l.trans a) b, fun i d g2 S H x H' h a b c => w.yld i d g2 S H x H' h (l.trans a) b c, fun g2 S H a b => w.stop g2 S H (l.trans a) b⟩
def tII (X : Cx) (xc : Xc) (W : WX) (f : SA) : TI := fun σ H R => ∃ g S0 e S, Rel X.K X.mg xc g S0 e S σ H ∧ Post X.K X.mg xc W S0 (· = σ) g (f S0.length e S) (fun g' xs e' S' _ H' => ∀ J, Walks X.K X.mg J xs g' → R J H')
/-- rule of an iterable; tg: the target -/
def RI (X : Cx) (xc : Xc) (tg iter : Expr) (f : SA) : Prop := ∀ W, Ok X W → PI X tg iter (tII X xc W f)
theorem pi_imp {tg e : Expr} {t t' : TI} (h : PI X tg e t) (k : ∀ σ H Q, t' σ H Q → t σ H Q) : PI X tg e t' := ⟨fun pins s σ H R I q => h.run pins s σ H R I (k σ H R q)⟩
theorem rs_for {tg iter : Expr} {body : List Stmt} {pos : Pos} {fi : SA} {fg : SG} {fb : SS} (hi : RI X xc tg iter fi) (hg : RG X xc tg fg) (hb : RSs X xc body fb) (hc : X.calm = true := by rfl) (hs : ∀ x, foldedSetIterable iter X.env x = pure x := by intro _; rfl) :
    RS X xc (.For tg iter body [] pos) (forM fi fg fb) := fun W ok => ps_imp (ps_for ok.po hc (hi W ok) (hg W ok) (hb W ok) hs) fun D σ H ⟨g, S0, e, S, rel, q⟩ =>
  ⟨g, S0, e, S, rel, q.bind.imp (fun _ t => trivial) fun g1 xs e1 S1 σ1 H1 t1 l1 rel1 q1 J wk => by
    subst t1
    refine ⟨fun i m σ H => m = xs.length - i ∧ i ≤ xs.length ∧ ∃ g S0 e S, g1.le g ∧ Rel X.K X.mg xc g S0 e S σ H ∧ Post X.K X.mg xc W S0 (fun _ => True) g (loopM fg fb S0.length (xs.drop i) e S) (EndOf X.K X.mg D),
      ⟨xs.length, by simp, Nat.zero_le _, g1, S0, e1, S1, .refl g1, rel1, q1⟩, ?_⟩
    rintro i m σ H ⟨rfl, hi, g, S0, e, S, l, rel, q⟩
    by_cases hlt : i < xs.length
    · have hd : xs.drop i = xs[i] :: xs.drop (i + 1) := List.drop_eq_getElem_cons hlt
      have hx : xs[i]? = some xs[i] := List.getElem?_eq_getElem hlt
      rw [hd] at q
      refine .inr ⟨wk.go i _ g S H hx l rel.st, fun σ' H' => ∃ g S0 e S, g1.le g ∧ Rel X.K X.mg xc g S0 e S σ' H' ∧ Post X.K X.mg xc W S0 (fun _ => True) g (loopM fg fb S0.length (xs.drop (i + 1)) e S) (EndOf X.K X.mg D),
        fun σ' H' h => ⟨xs.length - (i + 1), by omega, rfl, hlt, h⟩, fun x H' y => ?_⟩
      obtain ⟨g2, x2, r2⟩ := wk.yld i _ g S H x H' hx l rel.st y
      refine ⟨g2, S0, e, S, xs[i], rel.ext x2, r2, ((show Post X.K X.mg xc W S0 (fun _ => True) g ((fg S0.length xs[i] e S).bind _) _ from q).le x2.le).bind.imp (fun _ t => t) fun g3 _ e3 S3 σ3 H3 t3 l3 rel3 q3 => ?_⟩
      refine ⟨g3, S0, e3, S3, rel3, q3.bind.imp (fun _ t => t) fun g4 fl e4 S4 σ4 H4 t4 l4 rel4 q4 => ?_⟩
      have lg : g1.le g4 := ((l.trans x2.le).trans l3).trans l4
      cases fl with
      | nx => exact ⟨g4, S0, e4, S4, lg, rel4, q4⟩
      | ct => exact ⟨g4, S0, e4, S4, lg, rel4, q4⟩
      | bk => exact q4 g4 σ4 H4 trivial (.refl g4) rel4
      | ret d => exact q4 g4 σ4 H4 trivial (.refl g4) rel4
    · have e' : i = xs.length := by omega
      subst e'
      rw [List.drop_length] at q
      exact .inl ⟨wk.stop g S H l rel.st, q g σ H trivial (.refl g) rel⟩⟩

theorem walks_list {K : PySem.W.Frag} {mg : Str → Option Value} {g : Gh} {a : Addr} {vs : List V} {xs : List D} (hs : SqL K g.F a vs) (hr : Reps K mg g xs vs) : Walks K mg (Itl K a) xs g := by
  refine ⟨fun i d g' S H h l r => ?_, fun i d g' S H x H' h l r y => ?_, fun g' S H l r => ?_⟩
  · obtain ⟨v, hv, _⟩ := hr.get h
    exact ⟨vs, v, sub_SqL r (ex_SqL l.F hs), hv⟩
  · obtain ⟨v, hv, rv⟩ := hr.get h
    obtain ⟨rfl, y⟩ := y
    have := y vs (sub_SqL r (ex_SqL l.F hs))
    rw [hv] at this; cases this
    exact ⟨g', .refl g' _, rv.mono l⟩
  · exact ⟨vs, sub_SqL r (ex_SqL l.F hs), by rw [hr.len]; exact Nat.le_refl _⟩
theorem walks_tup {K : PySem.W.Frag} {mg : Str → Option Value} {g : Gh} {a : Addr} {vs : List V} {xs : List D} (hs : SqT K g.F a vs) (hr : Reps K mg g xs vs) : Walks K mg (Itt K a) xs g := by
  refine ⟨fun i d g' S H h l r => ?_, fun i d g' S H x H' h l r y => ?_, fun g' S H l r => ?_⟩
  · obtain ⟨v, hv, _⟩ := hr.get h
    exact ⟨vs, v, sub_SqT r (ex_SqT l.F hs), hv⟩
  · obtain ⟨v, hv, rv⟩ := hr.get h
    obtain ⟨rfl, y⟩ := y
    have := y vs (sub_SqT r (ex_SqT l.F hs))
    rw [hv] at this; cases this
    exact ⟨g', .refl g' _, rv.mono l⟩
  · exact ⟨vs, sub_SqT r (ex_SqT l.F hs), by rw [hr.len]; exact Nat.le_refl _⟩
/-- a list or a tuple -/
def iSeq (K : PySem.W.Frag) (tl : TE) : TI := fun σ H R => tl σ H fun x H1 => ∃ a, x = .ref a ∧ (((∃ xs, SqL K H1 a xs) ∧ R (Itl K a) H1) ∨ ((∃ xs, SqT K H1 a xs) ∧ R (Itt K a) H1))
theorem pi_seq {tg l : Expr} {tl : TE} (hl : PE X l tl) : PI X tg l (iSeq X.K tl) := by
  refine ⟨fun pins s σ H R I h => ?_⟩
  refine thn (hl.run pins s σ H _ I h) fun v s1 ⟨x, H1, I1, r1, q1⟩ => ?_
  obtain ⟨a, e, q1⟩ := q1
  subst e
  cases r1
  rcases q1 with ⟨⟨xs, hq⟩, q⟩ | ⟨⟨xs, hq⟩, q⟩
  · obtain ⟨its, rv, p, hz⟩ := I1.list hq
    refine wpAny_pyIter_list p.isList ?_
    refine ⟨s1.heap.objs.size, [s1.heap.objs.size], _, _, H1, rfl, I1.kept (t' := s1.toks) fun b o e => Heap.get?_push_of_some _ e, turn_list a _, ⟨_, Heap.get?_push_size _ rfl, rfl, rfl⟩, fun b hb => ?_, q⟩
    have e : b = s1.heap.objs.size := by simpa using hb
    subst e
    exact I1.fpOk (Nat.le_refl _) (I1.hok.fresh (Nat.le_refl _))
  · obtain ⟨its, rv, p, hz⟩ := I1.tuple hq
    refine wpAny_pyIter_tuple (show s1.heap.IsTuple a its.toArray from p) ?_
    refine ⟨s1.heap.objs.size, [s1.heap.objs.size], _, _, H1, rfl, I1.kept (t' := s1.toks) fun b o e => Heap.get?_push_of_some _ e, turn_tuple a _, ⟨_, Heap.get?_push_size _ rfl, rfl, rfl⟩, fun b hb => ?_, q⟩
    have e : b = s1.heap.objs.size := by simpa using hb
    subst e
    exact I1.fpOk (Nat.le_refl _) (I1.hok.fresh (Nat.le_refl _))
theorem ri_seq {tg l : Expr} {f : SE} (h : RE X xc l f) : RI X xc tg l (itemsM f) := fun W ok => pi_imp (pi_seq (h W ok)) fun σ H R ⟨g, S0, e, S, rel, q⟩ =>
  ⟨g, S0, e, S, rel, q.bind.imp (fun _ t => t) fun g1 d e1 S1 σ1 H1 t1 l1 rel1 q1 v rv => by
    cases d with
    | lst xs =>
      obtain ⟨a, vs, rfl, h1, h2⟩ := Reps.of_lst rv
      have hs : SqL X.K g1.F a vs := SqL.of h1
      exact ⟨a, rfl, .inl ⟨⟨vs, sub_SqL rel1.st hs⟩, q1 g1 σ1 H1 t1 (.refl g1) rel1 _ (walks_list hs h2)⟩⟩
    | frz xs =>
      obtain ⟨a, vs, rfl, h1, h2⟩ := Reps.of_frz rv
      exact ⟨a, rfl, .inl ⟨⟨vs, sub_SqL rel1.st h1⟩, q1 g1 σ1 H1 t1 (.refl g1) rel1 _ (walks_list h1 h2)⟩⟩
    | tup xs =>
      obtain ⟨a, vs, rfl, h1, h2⟩ := Reps.of_tup rv
      exact ⟨a, rfl, .inr ⟨⟨vs, sub_SqT rel1.st h1⟩, q1 g1 σ1 H1 t1 (.refl g1) rel1 _ (walks_tup h1 h2)⟩⟩
    | _ => exact q1.elim⟩
/-- range(n), range(a, b) -/
theorem walks_rng {K : PySem.W.Frag} {mg : Str → Option Value} {g : Gh} {lo n : Int} {xs : List D} (h : rngI lo n = some xs) : (-(2 ^ 62) ≤ lo ∧ lo < 2 ^ 62) ∧ (-(2 ^ 62) ≤ n ∧ n < 2 ^ 62) ∧ Walks K mg (Itr lo (n - lo).toNat) xs g := by
  unfold rngI at h
  split at h
  · rename_i hb
    cases h
    refine ⟨hb.1, hb.2, fun k d g' S H h l r => ?_, fun k d g' S H x H' h l r y => ?_, fun g' S H l r => ?_⟩
    · have := (List.getElem?_eq_some_iff.mp h).1
      rw [List.length_map, List.length_range] at this
      exact this
    · have hk := (List.getElem?_eq_some_iff.mp h).1
      rw [List.length_map, List.length_range] at hk
      rw [List.getElem?_map, List.getElem?_range hk] at h
      cases h
      obtain ⟨rfl, rfl⟩ := y
      exact ⟨g', .refl g' _, .int⟩
    · show (n - lo).toNat ≤ _
      rw [List.length_map, List.length_range]
      exact Nat.le_refl _
  · cases h
theorem ri_range1 {tg a : Expr} {p pos : Pos} {fa : SE} (hg : Gl X "range") (hm : X.mg "range" = none) (h : RE X xc a fa) (hs : starEach [a] X.env = [(false, eval a X.env)] := by rfl) : RI X xc tg (.Call (.Name "range" p) [a] [] pos) (rng1 fa) := fun W ok =>
  pi_imp (pi_range1 hg hm (pa_cons (h W ok) pa_nil hs) hs) fun σ H R ⟨g, S0, e, S, rel, q⟩ =>
  ⟨g, S0, e, S, rel, q.bind.imp (fun _ t => t) fun g1 d e1 S1 σ1 H1 t1 l1 rel1 q1 v rv => by
    cases d with
    | int n =>
      obtain ⟨xs, hx, q2⟩ := Post.opt q1
      cases rv
      obtain ⟨h1, h2, h3⟩ := walks_rng (K := X.K) (mg := X.mg) (g := g1) hx
      rw [Int.sub_zero] at h3
      exact ⟨n, rfl, h2.1, h2.2, q2 g1 σ1 H1 t1 (.refl g1) rel1 _ h3⟩
    | _ => exact q1.elim⟩
theorem ri_range2 {tg a b : Expr} {p pos : Pos} {fa fb : SE} (hg : Gl X "range") (hm : X.mg "range" = none) (h : RE X xc a fa) (h2 : RE X xc b fb) (hs : starEach [a, b] X.env = [(false, eval a X.env), (false, eval b X.env)] := by rfl) (hs2 : starEach [b] X.env = [(false, eval b X.env)] := by rfl) :
    RI X xc tg (.Call (.Name "range" p) [a, b] [] pos) (rng2 fa fb) := fun W ok =>
  pi_imp (pi_range2 hg hm (pa_cons (h W ok) (pa_cons (h2 W ok) pa_nil hs2) (by rw [hs, hs2])) hs hs2) fun σ H R ⟨g, S0, e, S, rel, q⟩ =>
  ⟨g, S0, e, S, rel, q.bind.imp (fun _ t => t) fun g1 d e1 S1 σ1 H1 t1 l1 rel1 q1 v rv => by
    subst t1
    exact ⟨g1, S0, e1, S1, rel1, q1.bind.imp (fun _ t => t) fun g2 d' e2 S2 σ2 H2 t2 l2 rel2 q2 u ru => by
      cases d with
      | int lo =>
        cases d' with
        | int n =>
          obtain ⟨xs, hx, q3⟩ := Post.opt q2
          cases rv
          cases ru
          obtain ⟨h1, h2, h3⟩ := walks_rng (K := X.K) (mg := X.mg) (g := g2) hx
          exact ⟨lo, n, rfl, ⟨h1.1, h1.2, h2.1, h2.2⟩, q3 g2 σ2 H2 t2 (.refl g2) rel2 _ h3⟩
        | _ => exact q2.elim
      | _ => exact q2.elim⟩⟩

/-! ### defs -/
/-- a def's promise, by its meaning; bs: what of the store is the caller's -/
def spI (K : PySem.W.Frag) (mg : Str → Option Value) (n : Nat) (bs : Sto → Sto) (m : SF) : Sp := fun vs H Q E => ∃ g S ds, ds.length = n ∧ SRel K mg g S H ∧ Reps K mg g ds vs ∧ (match m ds S with
  | .ok d _ S' => ∀ g' H' v, g.le g' → SRel K mg g' S' H' → KFr (bs S) S' → Rep K mg g' d v → Q v H'
  | .exc c fs _ S' => ∀ g' H' cls d, g.le g' → SRel K mg g' S' H' → KFr (bs S) S' → XRep K mg g' c fs cls d → E cls d H'
  | .stuck => False)
theorem spI_len {K : PySem.W.Frag} {mg : Str → Option Value} {n : Nat} {bs : Sto → Sto} {m : SF} (vs : List V) (H : Hp) (Q : VK) (E : XK) (h : spI K mg n bs m vs H Q E) : vs.length = n := by
  obtain ⟨g, S, ds, hn, _, hr, _⟩ := h
  rw [hr.len, hn]
theorem OAt.limOf {K : PySem.W.Frag} {mg : Str → Option Value} {g : Gh} {H : Hp} {a : Addr} {o : Ob} {n : Nat} (hn : g.m.length ≤ n) (h : OAt K mg g H a o) : o.lim n = true := by
  have one : ∀ (ds : List D), (∀ (i : Nat) d, ds[i]? = some d → d.lim n = true) → limL n ds = true := by
    intro ds
    induction ds with
    | nil => intro _; rfl
    | cons a r ih => intro h; rw [limL, h 0 a rfl, ih fun i d e => h (i + 1) d (by simpa using e)]; rfl
  have oneF : ∀ (ds : List (String × D)), (∀ (i : Nat) d, ds[i]? = some d → d.2.lim n = true) → limF n ds = true := by
    intro ds
    induction ds with
    | nil => intro _; rfl
    | cons a r ih => intro h; rw [limF, h 0 a rfl, ih fun i d e => h (i + 1) d (by simpa using e)]; rfl
  cases o with
  | dead => rfl
  | lst w xs =>
    obtain ⟨_, vs, _, hr⟩ := h
    exact one _ fun i d e => let ⟨v, _, rv⟩ := hr.get e; rv.limOf hn
  | ins c fs =>
    obtain ⟨_, C, dx, fv, _, _, hr⟩ := h
    exact oneF _ fun i d e => by
      have hi : i < fv.length := by rw [hr.len]; exact (List.getElem?_eq_some_iff.mp e).1
      exact (hr.at_ i d _ e (List.getElem?_eq_getElem hi)).limOf hn
/-- the callee's part of the store forgotten -/
theorem SRel.back {K : PySem.W.Frag} {mg : Str → Option Value} {g g' : Gh} {S S' : Sto} {H H' : Hp} (r : SRel K mg g S H) (l : g.le g') (r' : SRel K mg g' S' H') (k : KFr S S') :
    SRel K mg { g' with m := g'.m.take S.length } (S'.take S.length) H' ∧ g.le { g' with m := g'.m.take S.length } ∧ KFr S (S'.take S.length) := by
  refine ⟨r'.cut S.length fun i o hi ho => ?_, ⟨l.F, fun i a e => ?_, l.x⟩, ⟨by simp [k.le0], fun i o hi ho => ?_⟩⟩
  · obtain ⟨o0, h0, k0⟩ := k.frm i o hi ho
    obtain ⟨a, _, hob⟩ := r.at_ h0
    exact k0 _ (hob.limOf (Nat.le_of_eq r.len))
  · have hi : i < S.length := by rw [← r.len]; exact (List.getElem?_eq_some_iff.mp e).1
    show (g'.m.take S.length)[i]? = some a
    rw [List.getElem?_take, if_pos hi]
    exact l.m i a e
  · rw [List.getElem?_take, if_pos hi] at ho
    exact k.frm i o hi ho
theorem RepF.cut {K : PySem.W.Frag} {mg : Str → Option Value} {g' : Gh} {n k : Nat} {fs : List (String × D)} {fv : List (Str × V)} (h : RepF K mg g' fs fv) (hl : limF k fs = true) (hk : k ≤ n) : RepF K mg { g' with m := g'.m.take n } fs fv :=
  ⟨h.len, h.key, fun i p q e1 e2 => Rep.cut (g := g') (g' := { g' with m := g'.m.take n }) (n := n) (fun _ _ q => q) (fun _ _ q => q) (fun i a hi e => by show (g'.m.take n)[i]? = some a; rw [List.getElem?_take, if_pos hi]; exact e) (h.at_ i p q e1 e2) (lim_mono hk _ (limF_get hl e1))⟩
theorem Rep.cutN {K : PySem.W.Frag} {mg : Str → Option Value} {g' : Gh} {n : Nat} {d : D} {v : V} (h : Rep K mg g' d v) (hl : d.lim n = true) : Rep K mg { g' with m := g'.m.take n } d v :=
  Rep.cut (g := g') (g' := { g' with m := g'.m.take n }) (n := n) (fun _ _ q => q) (fun _ _ q => q) (fun i a hi e => by show (g'.m.take n)[i]? = some a; rw [List.getElem?_take, if_pos hi]; exact e) h hl
/-- the slots at a def's entry -/
theorem Rel.start {K : PySem.W.Frag} {mg : Str → Option Value} {g : Gh} {S S0 : Sto} {H : Hp} {ds : List D} {vs : List V} {N : List Str} (r : SRel K mg g S H) (k : KFr S0 S) (h : Reps K mg g ds vs) : Rel K mg none g S0 (ds.map some ++ List.replicate (N.length - ds.length) none) S (start N vs) H := by
  refine ⟨r, k.le0, k.frm, by simp [L2.start, h.len], fun i d e => ?_, fun _ _ _ _ _ _ q => by cases q⟩
  by_cases hi : i < ds.length
  · rw [List.getElem?_append_left (by simpa using hi), List.getElem?_map] at e
    cases hd : ds[i]? with
    | none => rw [hd] at e; cases e
    | some d' =>
      rw [hd] at e; cases e
      obtain ⟨v, hv, rv⟩ := h.get hd
      refine ⟨v, ?_, rv⟩
      unfold L2.start
      rw [List.getElem?_append_left (by rw [List.length_map, h.len]; exact hi), List.getElem?_map, hv]; rfl
  · rw [List.getElem?_append_right (by simpa using Nat.le_of_not_lt hi)] at e
    rw [List.getElem?_replicate] at e
    split at e <;> cases e
/-- the reading of a def's body gives its promise -/
theorem fn_go {k : Nat} {keep : Bool} {body : SS} {vs : List V} {H : Hp} {Q : VK} {E : XK} {N : List Str} {n : Nat} (hN : N.length = n) (h : spI X.K X.mg k id (fnM n keep body) vs H Q E) :
    tSI X none (fun cls d _ H => E cls d H) body { nx := fun _ H' => Q .non H', rt := Q } (start N vs) H := by
  obtain ⟨g, S, ds, hn, r, hr, q⟩ := h
  refine ⟨g, S, _, S, Rel.start (N := N) r (.refl S) hr, ?_⟩
  rw [hN]
  unfold fnM at q
  revert q
  cases body S.length (ds.map some ++ List.replicate (n - ds.length) none) S with
  | stuck => exact fun q => q
  | exc c fs e1 S1 =>
    intro q
    dsimp only at q
    by_cases hl : limF 0 fs = true
    · rw [if_pos hl] at q
      intro g' σ' H' cls d _ l rel x
      obtain ⟨r1, l1, k1⟩ := r.back l rel.st rel.kfr
      refine q _ H' cls d l1 r1 k1 ?_
      obtain ⟨C, h1, h2, h3 | ⟨dd, fv, h3, h4, h5⟩⟩ := x
      · exact ⟨C, h1, h2, .inl h3⟩
      · exact ⟨C, h1, h2, .inr ⟨dd, fv, h3, h4, h5.cut hl (Nat.zero_le _)⟩⟩
    · rw [if_neg hl] at q
      exact q.elim
  | ok f e1 S1 =>
    intro q g' σ' H' _ l rel
    obtain ⟨r1, l1, k1⟩ := r.back l rel.st rel.kfr
    cases f with
    | nx =>
      dsimp only at q
      cases keep with
      | true => exact q g' H' .non l rel.st rel.kfr .non
      | false => exact q _ H' .non l1 r1 k1 .non
    | ret d =>
      intro v rv
      dsimp only at q
      cases keep with
      | true => exact q g' H' v l rel.st rel.kfr rv
      | false =>
        rw [if_neg Bool.false_ne_true] at q
        by_cases hl : d.lim S.length = true
        · rw [if_pos hl] at q
          exact q _ H' v l1 r1 k1 (rv.cutN hl)
        · rw [if_neg hl] at q
          exact q.elim
    | bk => exact q.elim
    | ct => exact q.elim

section
variable {P : Program} {w : World} {K : PySem.W.Frag} {mg : Str → Option Value} {base : Heap}
/-- THE RULE for a def -/
theorem fn_ok {x qual : Str} {st : Stmt} {f : Addr} {fd : FuncData} {N ps : List Str} {k n c : Nat} {keep : Bool} {body : SS} (F : Fun K x qual st f fd) (S : FnScope N ps (defScope st)) (hN : N.length = n) (hc : ps.length = c)
    (h : ∀ (cdv : Value) (A : Around) (outer : List PySem.Env) (s : Shared) (H : Hp) (E : XK), Room k (A.deeper (PyProof.Rows.envOfC qual (defScope st) s.heap.objs.size f cdv)) →
      RSs (cxOf (L2.CX P w) P w K mg base N qual (defScope st) f cdv A outer s H E) none (defBody st) body) : FnOk P w K mg base (L2.CX P w) (k + 1) f fd ps (spI K mg c id (fnM n keep body)) := by
  refine F.okX S (fun vs H Q E h => by rw [spI_len vs H Q E h, hc]) fun cdv A outer s H vs Q E hr hsp => ?_
  refine ⟨_, h cdv A outer s H E hr (fun cls d _ H => E cls d H) ⟨takes_of rfl rfl rfl rfl, passes_of rfl, hr.units⟩, fn_go (X := cxOf (L2.CX P w) P w K mg base N qual (defScope st) f cdv A outer s H E) hN hsp⟩
end

end
end Mir
end

/-! MirObj -/
section
set_option Elab.async false
set_option linter.all false
set_option maxRecDepth 100000
/-! MirObj: calls, methods, attributes, instances, lists of the store. -/
namespace Mir
open PySem L2

section
variable {X : Cx} {xc : Xc}
/-! ### calls -/
/-- a def as a callee, its promise by its meaning -/
def Callee (X : Cx) (f : Addr) (k : Nat) (bs : Sto → Sto) (m : SF) (up : Nat) : Prop :=
  ∃ fd ps lvl, FnOk X.prog X.w X.K X.mg X.base (L2.CX X.prog X.w) lvl f fd ps (spI X.K X.mg k bs m) ∧ Binds X.K fd ps [] ∧ Room (lvl + up) X.A
/-- what a caller goes on with -/
def OutOk (K : PySem.W.Frag) (mg : Str → Option Value) (W : WX) (S : Sto) (σ : L2.St) (g : Gh) (Q : VK) : R D → Prop
  | .ok d _ S' => ∀ g' H' v, g.le g' → SRel K mg g' S' H' → KFr S S' → Rep K mg g' d v → Q v H'
  | .exc c fs _ S' => ∀ g' H' cls d, g.le g' → SRel K mg g' S' H' → KFr S S' → XRep K mg g' c fs cls d → W cls d σ H'
  | .stuck => False
/-- from the promise to what the caller goes on with -/
theorem sp_of {W : WX} {m : SF} {k : Nat} {bs : Sto → Sto} {g : Gh} {S1 S : Sto} {σ : L2.St} {H : Hp} {xs : List D} {vs : List V} {Q : VK} (rel : SRel X.K X.mg g S1 H) (kf : ∀ S', KFr (bs S1) S' → KFr S S') (hl : xs.length = k) (rvs : Reps X.K X.mg g xs vs)
    (q : OutOk X.K X.mg W S σ g Q (m xs S1)) : spI X.K X.mg k bs m vs H Q (WE W σ) := by
  refine ⟨g, S1, xs, hl, rel, rvs, ?_⟩
  revert q
  cases m xs S1 with
  | stuck => exact fun q => q
  | exc c f e2 S2 => exact fun q g' H' cls d l r kf' x => q g' H' cls d l r (kf _ kf') x
  | ok d e2 S2 => exact fun q g' H' v l r kf' rv => q g' H' v l r (kf _ kf') rv
theorem Post.out {K : PySem.W.Frag} {mg : Str → Option Value} {xc : Xc} {W : WX} {S0 S : Sto} {σ : L2.St} {H : Hp} {g : Gh} {r : R D} {e : Env} {Q : VK} (rel : Rel K mg xc g S0 e S σ H) (q : Post K mg xc W S0 (· = σ) g (r.out e) (fun g' d _ _ _ H' => ∀ v, Rep K mg g' d v → Q v H')) : OutOk K mg W S σ g Q r := by
  cases r with
  | stuck => exact q
  | exc c fs e1 S1 => exact fun g' H' cls d l r k x => q g' σ H' cls d rfl l (rel.move l r k) x
  | ok d e1 S1 => exact fun g' H' v l r k rv => q g' σ H' rfl l (rel.move l r k) v rv
theorem re_call {x : Str} {e : Expr} {es : List Expr} {p pos : Pos} {f : Addr} {k : Nat} {m : SF} {fs : SA} (C : Callee X f k id m 0) (hg : Gl X x) (hm : X.mg x = some (.ref f)) (hk : PySem.W.keepIn X.K (.ref f) = true)
    (ha : RA X xc (e :: es) fs) (hdb : (x == ("__debug__" : Str)) = false := by decide) (he : starEach (e :: es) X.env = (false, eval e X.env) :: starEach es X.env := by rfl) (hpl : (backTo pos (starEach es X.env)).any (·.1) = false := by rfl) :
    RE X xc (.Call (.Name x p) (e :: es) [] pos) (callM m k fs) := fun W ok => by
  obtain ⟨fd, ps, lvl, F, b, hr⟩ := C
  refine pe_imp (pe_callS F hr hg hm hk b (passAt ok.tk) (ha W ok) hdb he hpl) fun σ H Q ⟨g, S0, e, S, rel, q⟩ => ⟨g, S0, e, S, rel, q.bind.imp (fun _ t => t) fun g1 xs e1 S1 σ1 H1 t1 l1 rel1 q1 vs rvs => ?_⟩
  subst t1
  by_cases hl : xs.length = k
  · rw [if_pos hl] at q1
    exact sp_of rel1.st (fun _ h => h) hl rvs (Post.out rel1 q1)
  · rw [if_neg hl] at q1
    exact q1.elim
theorem re_call0 {x : Str} {p pos : Pos} {f : Addr} {m : SF} (C : Callee X f 0 id m 0) (hg : Gl X x) (hm : X.mg x = some (.ref f)) (hk : PySem.W.keepIn X.K (.ref f) = true) (hdb : (x == ("__debug__" : Str)) = false := by decide) :
    RE X xc (.Call (.Name x p) [] [] pos) (callM m 0 nilA) := fun W ok => by
  obtain ⟨fd, ps, lvl, F, b, hr⟩ := C
  refine ⟨fun pins s σ H Q I ⟨g, S0, e, S, rel, q⟩ => ?_⟩
  refine wpAny_Call_Name_kw (ld_glob I hg hm ?_ hdb)
  exact PySem.W.callWith_K0 I.kIn hk (run_fnS (us := []) (vs := []) F hr b (passAt ok.tk σ) I .nil (sp_of rel.st (fun _ h => h) rfl .nil (Post.out rel q)))

/-! ### instances -/
theorem classOf_ok {K : PySem.W.Frag} {mg : Str → Option Value} {g : Gh} {S : Sto} {H : Hp} {d : D} {v : V} {c : String} {fs : List (String × D)} (r : SRel K mg g S H) (h : Rep K mg g d v) (e : classOf S d = some (c, fs)) :
    ∃ a C dx fv, v = .ref a ∧ mg (nm c) = some (.ref C) ∧ H a = some (.ins C dx fv) ∧ RepF K mg g fs fv := by
  cases d with
  | ins c' fs' =>
    cases e
    cases h with
    | ins h1 h2 h3 h4 h5 => exact ⟨_, _, _, _, rfl, h1, r.sub _ _ h2, h3, h4, h5⟩
  | ref i =>
    cases h with
    | ref hm =>
      have e' : (match S[i]? with | some (.ins c fs) => some (c, fs) | _ => none) = some (c, fs) := e
      cases hs : S[i]? with
      | none => rw [hs] at e'; cases e'
      | some o =>
        rw [hs] at e'
        cases o with
        | ins c' fs' =>
          cases e'
          obtain ⟨_, C, dx, fv, h1, h2, h3⟩ := r.ob _ _ _ hs hm
          exact ⟨_, C, dx, fv, rfl, h1, h2, h3⟩
        | dead => cases e'
        | lst w xs => cases e'
  | _ => cases e
/-- a method's facts -/
def MethOk (X : Cx) (name c : String) (k : Nat) (m : SF) : Prop := ∃ C g, X.mg (nm c) = some (.ref C) ∧ Cls X.K C ∧ Meth X.K C (nm name) g ∧ Callee X g (k + 1) id m 0
inductive MTbl (X : Cx) (name : String) : List (String × Nat × SF) → Prop
  | nil : MTbl X name []
  | cons {c : String} {k : Nat} {m : SF} {r : List (String × Nat × SF)} : MethOk X name c k m → MTbl X name r → MTbl X name ((c, k, m) :: r)
theorem MTbl.get {name : String} : ∀ {t : List (String × Nat × SF)} {c : String} {k : Nat} {m : SF}, MTbl X name t → t.lookup c = some (k, m) → MethOk X name c k m
  | _, c, k, m, .nil, e => by simp at e
  | _, c, k, m, @MTbl.cons _ _ c' k' m' r h t, e => by
    by_cases hc : c = c'
    · subst hc
      rw [List.lookup_cons_self] at e
      cases e; exact h
    · rw [List.lookup_cons, beq_eq_false_iff_ne.mpr hc] at e
      exact t.get e
theorem re_meth {name : String} {o e : Expr} {es : List Expr} {apos pos : Pos} {tbl : List (String × Nat × SF)} {fo : SE} {fs : SA} {pl : Sem Bool} (T : MTbl X name tbl) (ho : RE X xc o fo) (ha : RA X xc (e :: es) fs)
    (hst : starEach (e :: es) X.env = (false, eval e X.env) :: starEach es X.env := by rfl) (hpl : (backTo pos (starEach es X.env)).any (·.1) = false := by rfl)
    (ht : eval (.Call (.Attribute o (nm name) apos) (e :: es) [] pos) X.env = (do
      let ov ← eval o X.env
      standAt apos.atName
      let (f, first) ← holding [ov] (getMethod ov (nm name) pl)
      callWith pos f first (backTo pos (starEach (e :: es) X.env)) (backToKw pos (keywordEach [] X.env))) := by rfl) : RE X xc (.Call (.Attribute o (nm name) apos) (e :: es) [] pos) (methM name tbl fo fs) := fun W ok => by
  refine ⟨fun pins s σ H Q I ⟨g, S0, e, S, rel, q⟩ => methcall_of (ho W ok) I ⟨g, S0, e, S, rel, q.bind.imp (fun _ t => t) fun g1 d e1 S1 σ1 H1 t1 l1 rel1 q1 v rv => ?_⟩ ht⟩
  subst t1
  cases hc : classOf S1 d with
  | none => rw [hc] at q1; exact q1.elim
  | some p =>
    obtain ⟨c, fl⟩ := p
    rw [hc] at q1
    dsimp only at q1
    cases hl : tbl.lookup c with
    | none => rw [hl] at q1; exact q1.elim
    | some km =>
      obtain ⟨k, m⟩ := km
      rw [hl] at q1
      cases hf : fl.lookup name with
      | some y => rw [hf] at q1; exact q1.elim
      | none =>
        rw [hf] at q1
        dsimp only at q1
        obtain ⟨a, C, dx, fv, rfl, h1, h2, h3⟩ := classOf_ok rel1.st rv hc
        obtain ⟨C', f, g1', g2', g3', fd, ps, lvl, F, b, hr⟩ := T.get hl
        rw [h1] at g1'; cases g1'
        refine ⟨a, C, dx, fv, f, rfl, h2, g2', g3', h3.lookN name hf, fun s1 I1 => ?_⟩
        refine PySem.W.callWith_K (first := [.ref a]) (h₀ := X.base) I1.ok.mod.kin g3'.kp (thn ((ha W ok).run pos pins s1 _ H1 (fun vs H2 => spI X.K X.mg (k + 1) id m (.ref a :: vs) H2 Q (WE W σ1)) I1 ⟨g1, S0, e1, S1, rel1, q1.bind.imp (fun _ t => t) fun g2 xs e2 S2 σ2 H2 t2 l2 rel2 q2 vs rvs => ?_⟩) fun us s2 ⟨vs, H2, I2, r, q2⟩ => ⟨I2.kIn, ?_⟩) hst hpl
        · subst t2
          by_cases hl' : xs.length = k
          · rw [if_pos hl'] at q2
            exact sp_of rel2.st (fun _ h => h) (by simp [hl']) (.cons (rv.mono l2) rvs) (Post.out rel2 q2)
          · rw [if_neg hl'] at q2
            exact q2.elim
        · exact run_fnS (us := .ref a :: us) (vs := .ref a :: vs) F hr b (passAt ok.tk _) I2 (.cons rfl r) q2
theorem re_meth0 {name : String} {o : Expr} {apos pos : Pos} {tbl : List (String × Nat × SF)} {fo : SE} {pl : Sem Bool} (T : MTbl X name tbl) (ho : RE X xc o fo)
    (ht : eval (.Call (.Attribute o (nm name) apos) [] [] pos) X.env = (do
      let ov ← eval o X.env
      standAt apos.atName
      let (f, first) ← holding [ov] (getMethod ov (nm name) pl)
      callWith pos f first (backTo pos (starEach [] X.env)) (backToKw pos (keywordEach [] X.env))) := by rfl) : RE X xc (.Call (.Attribute o (nm name) apos) [] [] pos) (methM name tbl fo nilA) := fun W ok => by
  refine ⟨fun pins s σ H Q I ⟨g, S0, e, S, rel, q⟩ => methcall_of (ho W ok) I ⟨g, S0, e, S, rel, q.bind.imp (fun _ t => t) fun g1 d e1 S1 σ1 H1 t1 l1 rel1 q1 v rv => ?_⟩ ht⟩
  subst t1
  cases hc : classOf S1 d with
  | none => rw [hc] at q1; exact q1.elim
  | some p =>
    obtain ⟨c, fl⟩ := p
    rw [hc] at q1
    dsimp only at q1
    cases hl : tbl.lookup c with
    | none => rw [hl] at q1; exact q1.elim
    | some km =>
      obtain ⟨k, m⟩ := km
      rw [hl] at q1
      cases hf : fl.lookup name with
      | some y => rw [hf] at q1; exact q1.elim
      | none =>
        rw [hf] at q1
        dsimp only at q1
        obtain ⟨a, C, dx, fv, rfl, h1, h2, h3⟩ := classOf_ok rel1.st rv hc
        obtain ⟨C', f, g1', g2', g3', fd, ps, lvl, F, b, hr⟩ := T.get hl
        rw [h1] at g1'; cases g1'
        refine ⟨a, C, dx, fv, f, rfl, h2, g2', g3', h3.lookN name hf, fun s1 I1 => ?_⟩
        refine PySem.W.callWith_K0 (first := [.ref a]) I1.kIn g3'.kp (run_fnS (us := [.ref a]) (vs := [.ref a]) F hr b (passAt ok.tk _) I1 (.cons rfl .nil) ?_)
        have q2 : Post X.K X.mg xc W S0 (· = _) g1 (if ([] : List D).length = k then (m [d] S1).out e1 else .stuck) _ := q1
        by_cases hl' : ([] : List D).length = k
        · rw [if_pos hl'] at q2
          exact sp_of rel1.st (fun _ h => h) (by rw [← hl']; rfl) (.cons rv .nil) (Post.out rel1 q2)
        · rw [if_neg hl'] at q2
          exact q2.elim
end
end Mir
end

/-! MirObj2 -/
section
set_option Elab.async false
set_option linter.all false
set_option maxRecDepth 100000
/-! MirObj2: attributes, new instances, lists of the store turned. -/
namespace Mir
open PySem L2

section
variable {X : Cx} {xc : Xc}
def FldOk (X : Cx) (f c : String) : Prop := ∃ C, X.mg (nm c) = some (.ref C) ∧ Cls X.K C ∧ NoAttr X.K C (nm f)
def PrpOk (X : Cx) (f c : String) (m : SF) : Prop := ∃ C p g, X.mg (nm c) = some (.ref C) ∧ Cls X.K C ∧ PropOf X.K C (nm f) p g ∧ Callee X g 1 id m 1
inductive ATbl (X : Cx) (f : String) : List (String × Option SF) → Prop
  | nil : ATbl X f []
  | fld {c : String} {r : List (String × Option SF)} : FldOk X f c → ATbl X f r → ATbl X f ((c, none) :: r)
  | prp {c : String} {m : SF} {r : List (String × Option SF)} : PrpOk X f c m → ATbl X f r → ATbl X f ((c, some m) :: r)
theorem ATbl.get {f : String} : ∀ {t : List (String × Option SF)} {c : String} {o : Option SF}, ATbl X f t → t.lookup c = some o → (match o with | none => FldOk X f c | some m => PrpOk X f c m)
  | _, c, o, .nil, e => by simp at e
  | _, c, o, @ATbl.fld _ _ c' r h t, e => by
    by_cases hc : c = c'
    · subst hc
      rw [List.lookup_cons_self] at e
      cases e; exact h
    · rw [List.lookup_cons, beq_eq_false_iff_ne.mpr hc] at e
      exact t.get e
  | _, c, o, @ATbl.prp _ _ c' m' r h t, e => by
    by_cases hc : c = c'
    · subst hc
      rw [List.lookup_cons_self] at e
      cases e; exact h
    · rw [List.lookup_cons, beq_eq_false_iff_ne.mpr hc] at e
      exact t.get e
theorem re_attr {f : String} {e : Expr} {pos : Pos} {tbl : List (String × Option SF)} {fo : SE} (T : ATbl X f tbl) (ho : RE X xc e fo) (hb : attributeBase e (nm f) X.env (eval e X.env) = eval e X.env := by rfl) : RE X xc (.Attribute e (nm f) pos) (attrM f tbl fo) := fun W ok => by
  refine ⟨fun pins s σ H Q I ⟨g, S0, en, S, rel, q⟩ => attr_of hb (thn ((ho W ok).run pins s σ H (fun x H1 => ∃ a C dx fs, x = .ref a ∧ H1 a = some (.ins C dx fs) ∧ Cls X.K C ∧ ((∃ v, NoAttr X.K C (nm f) ∧ fs.lookup (nm f) = some v ∧ Q v H1) ∨
      ∃ p g fd ps lvl sp, PropOf X.K C (nm f) p g ∧ FnOk X.prog X.w X.K X.mg X.base (L2.CX X.prog X.w) lvl g fd ps sp ∧ Binds X.K fd ps [] ∧ Room (lvl + 1) X.A ∧ sp [.ref a] H1 Q E0)) I ⟨g, S0, en, S, rel, q.bind.imp (fun _ t => t) fun g1 d e1 S1 σ1 H1 t1 l1 rel1 q1 v rv => ?_⟩) fun u s1 ⟨x, H1, I1, rx, a, C, dx, fs, ex, ea, c, h⟩ => ?_)⟩
  · subst t1
    cases hc : classOf S1 d with
    | none => rw [hc] at q1; exact q1.elim
    | some p =>
      obtain ⟨c, fl⟩ := p
      rw [hc] at q1
      dsimp only at q1
      obtain ⟨a, C, dx, fv, rfl, h1, h2, h3⟩ := classOf_ok rel1.st rv hc
      cases hl : tbl.lookup c with
      | none => rw [hl] at q1; exact q1.elim
      | some o =>
        rw [hl] at q1
        have T1 := T.get hl
        cases o with
        | none =>
          dsimp only at q1 T1
          obtain ⟨C', k1, k2, k3⟩ := T1
          rw [h1] at k1; cases k1
          obtain ⟨d', hd, q2⟩ := Post.opt q1
          obtain ⟨w, hw, rw'⟩ := h3.look f hd
          exact ⟨a, C, dx, fv, rfl, h2, k2, .inl ⟨w, k3, hw, q2 g1 σ1 H1 rfl (.refl g1) rel1 w rw'⟩⟩
        | some m =>
          dsimp only at q1 T1
          obtain ⟨C', p, g2, k1, k2, k3, fd, ps, lvl, F, b, hr⟩ := T1
          rw [h1] at k1; cases k1
          refine ⟨a, C, dx, fv, rfl, h2, k2, .inr ⟨p, g2, fd, ps, lvl, _, k3, F, b, hr, g1, S1, [d], rfl, rel1.st, .cons rv .nil, ?_⟩⟩
          revert q1
          cases m [d] S1 with
          | stuck => exact fun q => q.elim
          | exc c f e2 S2 => exact fun q => q.elim
          | ok d' e2 S2 => exact fun q g' H' v l r kf rv => q g' _ H' rfl l (rel1.move l r kf) v rv
  · subst ex
    obtain rfl : u = Value.ref a := rx
    rcases h with ⟨v, n, l, q⟩ | ⟨p, g', fd, ps, lvl, sp, hp, F, b, hr, q⟩
    · exact getattr_ok I1 ea c n l fun u' s2 I2 ru => ⟨v, H1, I2, ru, q⟩
    · exact getprop_ok I1 ea c hp F hr b .nil passL q
inductive CTbl (X : Cx) (f : String) : List String → Prop
  | nil : CTbl X f []
  | cons {c : String} {r : List String} : FldOk X f c → CTbl X f r → CTbl X f (c :: r)
theorem CTbl.get {f : String} : ∀ {t : List String} {c : String}, CTbl X f t → t.elem c = true → FldOk X f c
  | _, c, .nil, e => by simp at e
  | _, c, @CTbl.cons _ _ c' r h t, e => by
    by_cases hc : c = c'
    · subst hc; exact h
    · refine t.get ?_
      rw [List.elem_cons] at e
      rw [beq_eq_false_iff_ne.mpr hc] at e
      exact e
/-- an object of the store written, the frame standing -/
theorem Rel.write {K : PySem.W.Frag} {mg : Str → Option Value} {xc : Xc} {g : Gh} {S0 : Sto} {e : Env} {S : Sto} {σ : L2.St} {H : Hp} {o : HO} (r : Rel K mg xc g S0 e S σ H) {i : Nat} {a : Addr} {ob ob' : Ob} (h : S[i]? = some ob) (hl : ob.live = true) (hm : g.m[i]? = some a)
    (ho : OAt K mg g (upd H a o) a ob') (hp : S0.length ≤ i ∨ ∀ n, ob.lim n = true → ob'.lim n = true) : Rel K mg xc g S0 e (S.set i ob') σ (upd H a o) := by
  have k := r.kfr.set h hp
  exact ⟨r.st.put h hl hm ho, k.le0, k.frm, r.el, r.sl, r.cur⟩
theorem mayPut_ok {b i : Nat} {d : D} (h : mayPut b i d = true) : b ≤ i ∨ ∀ n, d.lim n = true := by
  unfold mayPut at h
  rcases Bool.or_eq_true_iff.mp h with h | h
  · exact .inl (of_decide_eq_true h)
  · exact .inr fun n => lim_mono (Nat.zero_le n) d h
theorem rs_setF {f : String} {o value : Expr} {pos pos' : Pos} {cls : List String} {fo fv : SE} (T : CTbl X f cls) (ho : RE X xc o fo) (hv : RE X xc value fv) (hs : swapsWith value (some (.Attribute o (nm f) pos')) pos.line X.env = pure false := by rfl) :
    RS X xc (.Assign [.Attribute o (nm f) pos'] value pos) (setF f cls fo fv) := fun W ok => ps_imp (ps_fld (ho W ok) (hv W ok) hs) fun D σ H ⟨g, S0, e, S, rel, q⟩ =>
  ⟨g, S0, e, S, rel, q.bind.imp (fun _ t => trivial) fun g1 d e1 S1 σ1 H1 t1 l1 rel1 q1 v rv => by
    subst t1
    exact ⟨g1, S0, e1, S1, rel1, q1.bind.imp (fun _ t => trivial) fun g2 x e2 S2 σ2 H2 t2 l2 rel2 q2 u ru => by
      subst t2
      cases x with
      | ref i =>
        cases ru with
        | @ref _ a hm =>
          dsimp only at q2
          cases hS : S2[i]? with
          | none => rw [hS] at q2; exact q2.elim
          | some ob =>
            rw [hS] at q2
            cases ob with
            | ins c fs =>
              dsimp only at q2
              obtain ⟨hF, C, dx, fv', h1, h2, h3⟩ := rel2.st.ob _ _ _ hS hm
              split at q2
              · rename_i hc
                obtain ⟨C', k1, k2, k3⟩ := T.get hc.1
                rw [h1] at k1; cases k1
                refine ⟨a, C, dx, fv', rfl, h2, k2, k3, by rw [h3.len]; exact hc.2.1, ?_⟩
                refine q2 g2 σ2 _ trivial (.refl g2) (rel2.write hS rfl hm ⟨hF, C, dx, _, h1, upd_same, h3.put f (rv.mono l2)⟩ ?_)
                rcases mayPut_ok hc.2.2 with hp | hp
                · exact .inl hp
                · exact .inr fun n hn => limF_put (hp n) hn
              · exact q2.elim
            | dead => exact q2.elim
            | lst w xs => exact q2.elim
      | _ => exact q2.elim⟩⟩
end
end Mir
end

/-! MirObj3 -/
section
set_option Elab.async false
set_option linter.all false
set_option maxRecDepth 100000
/-! MirObj3: o.f += v, new instances, methods of lists, stores. -/
namespace Mir
open PySem L2

section
variable {X : Cx} {xc : Xc}
/-! ### a op= b on values -/
def IpL (K : PySem.W.Frag) (mg : Str → Option Value) (f : D → D → Option D) (r : V → V → Hp → VK → Prop) : Prop :=
  ∀ (g : Gh) (H : Hp) (x y z : D) (v u : V) (Q : VK), Rep K mg g x v → Rep K mg g y u → f x y = some z → (∀ w, Rep K mg g z w → Q w H) → r v u H Q
theorem ip_addI {K : PySem.W.Frag} {mg : Str → Option Value} : IpL K mg addI rAdd := fun g H x y z v u Q hx hy hz q => by
  cases hx <;> first | (cases hz; done) | skip
  cases hy <;> first | (cases hz; done) | skip
  cases hz
  exact ⟨_, _, rfl, rfl, q _ .int⟩
theorem ip_subI {K : PySem.W.Frag} {mg : Str → Option Value} : IpL K mg subI rSub := fun g H x y z v u Q hx hy hz q => by
  cases hx <;> first | (cases hz; done) | skip
  cases hy <;> first | (cases hz; done) | skip
  cases hz
  exact ⟨_, _, rfl, rfl, q _ .int⟩
theorem rs_augF {f : String} {o value : Expr} {op : Operator} {pos tpos : Pos} {cls : List String} {fo fv : SE} {fop : D → D → Option D} {rd : V → V → Hp → VK → Prop} (T : CTbl X f cls) (hop : InOp X op rd) (hl : IpL X.K X.mg fop rd) (ho : RE X xc o fo) (hv : RE X xc value fv) :
    RS X xc (.AugAssign (.Attribute o (nm f) tpos) op value pos) (augF f cls fop fo fv) := fun W ok => ps_imp (ps_fldaug (ho W ok) (hv W ok) hop) fun D σ H ⟨g, S0, e, S, rel, q⟩ =>
  ⟨g, S0, e, S, rel, q.bind.imp (fun _ t => trivial) fun g1 x e1 S1 σ1 H1 t1 l1 rel1 q1 v rv => by
    subst t1
    cases x with
    | ref i =>
      cases rv with
      | @ref _ a hm =>
        dsimp only at q1
        cases hS : S1[i]? with
        | none => rw [hS] at q1; exact q1.elim
        | some ob =>
          rw [hS] at q1
          cases ob with
          | ins c fs =>
            dsimp only at q1
            obtain ⟨hF, C, dx, fv', h1, h2, h3⟩ := rel1.st.ob _ _ _ hS hm
            cases hf : fs.lookup f with
            | none => rw [hf] at q1; exact q1.elim
            | some y =>
              rw [hf] at q1
              dsimp only at q1
              obtain ⟨w, hw, rw'⟩ := h3.look f hf
              by_cases hc : cls.elem c = true
              · rw [if_pos hc] at q1
                obtain ⟨C', k1, k2, k3⟩ := T.get hc
                rw [h1] at k1; cases k1
                refine ⟨a, C, dx, fv', w, rfl, h2, k2, k3, hw, g1, S0, e1, S1, rel1, q1.bind.imp (fun _ t => trivial) fun g2 d e2 S2 σ2 H2 t2 l2 rel2 q2 u ru => ?_⟩
                subst t2
                cases hz : fop y d with
                | none => rw [hz] at q2; exact q2.elim
                | some z =>
                  rw [hz] at q2
                  cases hS2 : S2[i]? with
                  | none => rw [hS2] at q2; exact q2.elim
                  | some ob2 =>
                    rw [hS2] at q2
                    cases ob2 with
                    | ins c' fs' =>
                      dsimp only at q2
                      have hm2 := l2.m _ _ hm
                      obtain ⟨hF2, C2, dx2, fv2, m1, m2, m3⟩ := rel2.st.ob _ _ _ hS2 hm2
                      split at q2
                      · rename_i hk
                        obtain ⟨hk1, hk2, rfl⟩ := hk
                        rw [h1] at m1; cases m1
                        refine hl g2 H2 y d z w u _ (rw'.mono l2) ru hz fun w' rz => ⟨dx2, fv2, m2, by rw [m3.len]; exact hk1, ?_⟩
                        refine q2 g2 σ2 _ trivial (.refl g2) (rel2.write hS2 rfl hm2 ⟨hF2, C, dx2, _, h1, upd_same, m3.put f rz⟩ ?_)
                        rcases mayPut_ok hk2 with hp | hp
                        · exact .inl hp
                        · exact .inr fun n hn => limF_put (hp n) hn
                      · exact q2.elim
                    | dead => exact q2.elim
                    | lst w xs => exact q2.elim
              · rw [if_neg hc] at q1
                exact q1.elim
          | dead => exact q1.elim
          | lst w xs => exact q1.elim
    | _ => exact q1.elim⟩

/-! ### new instances -/
theorem run_makeS {f C : Addr} {k : Nat} {fd : FuncData} {ps : List Str} {sp : Sp} {E : St → XK} {CX : CXT} {pins : List (Addr × Obj)} {σ : St} {H : Hp} {s : Shared} {Q : VK} {us : List Value} {vs : List V} (M : Mk X.K C f) (F : FnOk X.prog X.w X.K X.mg X.base CX k f fd ps sp) (hr : Room (k + 1) X.A) (hb : Binds X.K fd ps [])
    (hx : PassesAt CX X σ (E σ)) (I : Inv X pins σ H s) (r : Vals vs us)
    (h : ∀ x dx, H x = none → H dx = none → dx ≠ x → sp (.ref x :: vs) (upd (upd H dx (.own x)) x (.ins C dx [])) (fun v H2 => v = .non ∧ Q (.ref x) H2) (E σ)) :
    wpAny (model X.prog X.w) X.A (call (.ref C) us) (EP X pins σ Q) X.xe s := by
  have hq := h (s.heap.objs.size + 1) s.heap.objs.size (I.hok.fresh (Nat.le_succ _)) (I.hok.fresh (Nat.le_refl _)) (Nat.ne_of_lt (Nat.lt_succ_self _))
  have I2 := Inv.made (C := C) I
  have r2 : Vals (V.ref (s.heap.objs.size + 1) :: vs) (Value.ref (s.heap.objs.size + 1) :: us) := .cons rfl r
  have hl : (Value.ref (s.heap.objs.size + 1) :: us).length = ps.length := by
    have e := r2.length
    rw [F.len _ _ _ _ hq] at e
    exact e.symm
  have b := hb _ (Value.ref (s.heap.objs.size + 1) :: us) I2.kIn (by rw [List.append_nil]; exact hl)
  rw [List.append_nil] at b
  refine wpAny_call (make_map (f := f) I.kIn M.makes M.init (beq_iff_eq.mp M.fn) (codeAny_mono (F.run _ X.stack _ _ ⟨Value.ref (s.heap.objs.size + 1) :: us, []⟩ (Value.ref (s.heap.objs.size + 1) :: us) _ _ (E σ) (hr.make C us [])
    (I2.env0.make C us []) b r2 hq) fun r s' hq' => ?_))
  cases r with
  | error e => exact hx pins _ _ e s' I2 hq'
  | ok fl =>
    cases fl with
    | ret u =>
      obtain ⟨v, H', I3, rv, ev, q3⟩ := I2.after hq'
      subst ev
      exact ⟨rv, ⟨V.ref (s.heap.objs.size + 1), H', I3, rfl, q3⟩⟩
    | next => exact False.elim hq'
    | brk => exact False.elim hq'
    | cont => exact False.elim hq'
/-- the fields of an instance as they stand, own lists frozen -/
theorem frost_ok {K : PySem.W.Frag} {mg : Str → Option Value} {n : Nat} {H : Hp} : ∀ {fs : List (String × D)} {fv : List (Str × V)} {g : Gh} {S : Sto}, SRel K mg g S H → RepF K mg g fs fv →
    ∃ g', g.le g' ∧ g'.m = g.m ∧ SRel K mg g' (frostF n fs S).2 H ∧ RepF K mg g' (frostF n fs S).1 fv ∧ KFr S (frostF n fs S).2 ∧ (∀ j : Nat, j < n → (frostF n fs S).2[j]? = S[j]?) ∧ ∀ (j : Nat) c fl, S[j]? = some (.ins c fl) → (frostF n fs S).2[j]? = some (.ins c fl)
  | [], fv, g, S, r, h => ⟨g, .refl g, rfl, r, h, .refl S, fun _ _ => rfl, fun _ _ _ h => h⟩
  | (k, d) :: rest, fv, g, S, r, h => by
    obtain ⟨y, fv', rfl, ry, hr⟩ := h.inv
    have go : ∀ (S1 : Sto) (d1 : D) (g1 : Gh), g.le g1 → g1.m = g.m → SRel K mg g1 S1 H → Rep K mg g1 d1 y → KFr S S1 → (∀ j : Nat, j < n → S1[j]? = S[j]?) → (∀ (j : Nat) c fl, S[j]? = some (.ins c fl) → S1[j]? = some (.ins c fl)) → frostF n ((k, d) :: rest) S = ((k, d1) :: (frostF n rest S1).1, (frostF n rest S1).2) →
        ∃ g', g.le g' ∧ g'.m = g.m ∧ SRel K mg g' (frostF n ((k, d) :: rest) S).2 H ∧ RepF K mg g' (frostF n ((k, d) :: rest) S).1 ((nm k, y) :: fv') ∧ KFr S (frostF n ((k, d) :: rest) S).2 ∧ (∀ j : Nat, j < n → (frostF n ((k, d) :: rest) S).2[j]? = S[j]?) ∧ ∀ (j : Nat) c fl, S[j]? = some (.ins c fl) → (frostF n ((k, d) :: rest) S).2[j]? = some (.ins c fl) := by
      intro S1 d1 g1 l1 em r1 ry1 k1 low ins e
      obtain ⟨g', l', em', r', h', k', low', ins'⟩ := frost_ok r1 (hr.mono l1)
      rw [e]
      exact ⟨g', l1.trans l', em'.trans em, r', RepF.consF (ry1.mono l') h', k1.trans k', fun j hj => (low' j hj).trans (low j hj), fun j c fl hh => ins' j c fl (ins j c fl hh)⟩
    have same : ∀ (e : frostF n ((k, d) :: rest) S = ((k, d) :: (frostF n rest S).1, (frostF n rest S).2)), ∃ g', g.le g' ∧ g'.m = g.m ∧ SRel K mg g' (frostF n ((k, d) :: rest) S).2 H ∧ RepF K mg g' (frostF n ((k, d) :: rest) S).1 ((nm k, y) :: fv') ∧ KFr S (frostF n ((k, d) :: rest) S).2 ∧ (∀ j : Nat, j < n → (frostF n ((k, d) :: rest) S).2[j]? = S[j]?) ∧ ∀ (j : Nat) c fl, S[j]? = some (.ins c fl) → (frostF n ((k, d) :: rest) S).2[j]? = some (.ins c fl) :=
      fun e => go S d g (.refl g) rfl r ry (.refl S) (fun _ _ => rfl) (fun _ _ _ h => h) e
    cases d with
    | ref j =>
      by_cases hj : n ≤ j
      · cases hS : S[j]? with
        | none => exact same (by simp [frostF, frostD, hj, hS])
        | some o =>
          cases o with
          | dead => exact same (by simp [frostF, frostD, hj, hS])
          | ins c fs => exact same (by simp [frostF, frostD, hj, hS])
          | lst w xs =>
            cases ry with
            | @ref _ a hm =>
              obtain ⟨hF, vs, ha, hx⟩ := r.ob _ _ _ hS hm
              refine go (S.set j .dead) (.lst xs) (g.frz a (.lst vs)) (Gh.le_frz hF) rfl (r.frost hS rfl hm ha) ((hx.mono (Gh.le_frz hF)).lst (by show upd g.F a _ a = _; exact upd_same)) ((KFr.refl S).set hS (.inr fun _ _ => rfl)) (fun i hi => List.getElem?_set_ne (by omega)) (fun i c fl hh => by rw [List.getElem?_set_ne (fun q => by rw [← q, hS] at hh; cases hh)]; exact hh) ?_
              simp [frostF, frostD, hj, hS]
      · exact same (by simp [frostF, frostD, hj])
    | _ => exact same rfl
theorem re_new {c : String} {x : Str} {e : Expr} {es : List Expr} {p pos : Pos} {C f : Addr} {k : Nat} {fz : Bool} {init : SF} {fs : SA} (M : Mk X.K C f) (Cl : Callee X f (k + 1) List.dropLast init 1) (hx : x = nm c) (hg : Gl X x) (hm : X.mg x = some (.ref C))
    (ha : RA X xc (e :: es) fs) (hdb : (x == ("__debug__" : Str)) = false := by decide) (he : starEach (e :: es) X.env = (false, eval e X.env) :: starEach es X.env := by rfl) (hpl : (backTo pos (starEach es X.env)).any (·.1) = false := by rfl) :
    RE X xc (.Call (.Name x p) (e :: es) [] pos) (newM c k fz init fs) := fun W ok => by
  obtain ⟨fd, ps, lvl, F, b, hr⟩ := Cl
  refine ⟨fun pins s σ H Q I h => ?_⟩
  refine wpAny_Call_Name_kw (ld_glob I hg hm ?_ hdb)
  obtain ⟨g, S0, en, S, rel, q⟩ := h
  refine PySem.W.callWith_K (h₀ := X.base) I.ok.mod.kin M.kp (thn ((ha W ok).run pos pins s σ H (fun vs H1 => ∀ x dx, H1 x = none → H1 dx = none → dx ≠ x → spI X.K X.mg (k + 1) List.dropLast init (.ref x :: vs) (upd (upd H1 dx (.own x)) x (.ins C dx [])) (fun v H2 => v = .non ∧ Q (.ref x) H2) (WE W σ)) I
    ⟨g, S0, en, S, rel, q.bind.imp (fun _ t => t) fun g1 xs e1 S1 σ1 H1 t1 l1 rel1 q1 vs rvs a dx ha hdx hne => ?_⟩) fun us s1 ⟨vs, H1, I1, r, q⟩ => ⟨I1.kIn, ?_⟩) he hpl
  · subst t1
    by_cases hl : xs.length = k
    · rw [if_pos hl] at q1
      -- the new object
      have r0 : SRel X.K X.mg g1 S1 (upd H1 dx (.own a)) := rel1.st.heap fun b u hb => by
        rw [upd_ne (fun q => by rw [q, hdx] at hb; cases hb)]; exact hb
      have ha' : upd H1 dx (.own a) a = none := by rw [upd_ne (Ne.symm hne)]; exact ha
      have hmc : X.mg (nm c) = some (.ref C) := by rw [← hx]; exact hm
      have rN := r0.new (o := .ins C dx []) (ob := .ins c []) ha' rfl ⟨r0.fresh ha', C, dx, [], hmc, upd_same, RepF.nil⟩
      have hid : (g1.new a).m[S1.length]? = some a := by
        show (g1.m ++ [a])[S1.length]? = some a
        rw [← rel1.st.len, List.getElem?_append_right (Nat.le_refl _)]
        simp
      refine sp_of (S := S1) rN (fun S' hk => by rw [List.dropLast_concat] at hk; exact hk) (by simp [hl]) (.cons (.ref hid) (rvs.mono Gh.le_new)) ?_
      revert q1
      cases init (.ref S1.length :: xs) (S1 ++ [.ins c []]) with
      | stuck => exact fun q => q.elim
      | exc c' fl e2 S2 =>
        intro q g' H' cls d l r kf x
        dsimp only at q
        by_cases hlf : limF 0 fl = true
        · rw [if_pos hlf] at q
          have lg := Gh.le_new.trans l
          obtain ⟨rB, lB, kB⟩ := rel1.st.back lg r kf
          refine q _ σ1 H' cls d rfl lB (rel1.move lB rB kB) ?_
          obtain ⟨C', h1, h2, h3 | ⟨dd, fv, h3, h4, h5⟩⟩ := x
          · exact ⟨C', h1, h2, .inl h3⟩
          · exact ⟨C', h1, h2, .inr ⟨dd, fv, h3, h4, h5.cut hlf (Nat.zero_le _)⟩⟩
        · rw [if_neg hlf] at q
          exact q.elim
      | ok d e2 S2 =>
        intro q g' H' v l r kf rv
        have lg := Gh.le_new.trans l
        cases d with
        | non =>
          cases rv
          refine ⟨rfl, ?_⟩
          dsimp only at q
          cases fz with
          | false =>
            rw [if_neg Bool.false_ne_true] at q
            exact q g' σ1 H' rfl lg (rel1.move lg r kf) _ (.ref (l.m _ _ hid))
          | true =>
            rw [if_pos rfl] at q
            cases hS : S2[S1.length]? with
            | none => rw [hS] at q; exact q.elim
            | some o =>
              rw [hS] at q
              cases o with
              | ins c' fl =>
                dsimp only at q
                have hid' := l.m _ _ hid
                obtain ⟨hF, C', dx', fv', m1, m2, m3⟩ := r.ob _ _ _ hS hid'
                obtain ⟨g3, l3, em, r3, f3, k3, low, ins⟩ := frost_ok (n := S1.length) r m3
                by_cases hlim : limF S1.length (frostF S1.length fl S2).1 = true
                · rw [if_pos hlim] at q
                  -- the object itself
                  have hS3 : (frostF S1.length fl S2).2[S1.length]? = some (.ins c' fl) := ins _ _ _ hS
                  have hid3 := l3.m _ _ hid'
                  obtain ⟨hF3, _⟩ := r3.ob _ _ _ hS3 hid3
                  have r4 := r3.frost hS3 rfl hid3 m2
                  have l4 : g3.le (g3.frz a (.ins C' dx' fv')) := Gh.le_frz hF3
                  have k4 : KFr S1 ((frostF S1.length fl S2).2.set S1.length .dead) := ((kf.trans k3).set hS3 (.inl (Nat.le_refl _)))
                  obtain ⟨rB, lB, kB⟩ := rel1.st.back ((lg.trans l3).trans l4) r4 k4
                  have eT : ((frostF S1.length fl S2).2.set S1.length .dead).take S1.length = S2.take S1.length := by
                    refine List.ext_getElem? fun j => ?_
                    rw [List.getElem?_take, List.getElem?_take]
                    split
                    · rename_i hj
                      rw [List.getElem?_set_ne (by omega), low j hj]
                    · rfl
                  rw [eT] at rB kB
                  have f4 := (f3.mono l4).cut hlim (Nat.le_refl _)
                  refine q _ σ1 H' rfl lB (rel1.move lB rB kB) _ ?_
                  exact .ins m1 (by show upd g3.F a _ a = _; exact upd_same) f4.len f4.key f4.at_
                · rw [if_neg hlim] at q
                  exact q.elim
              | dead => exact q.elim
              | lst w xs => exact q.elim
        | _ => exact q.elim
    · rw [if_neg hl] at q1
      exact q1.elim
  · exact run_makeS (E := WE W) M F hr b (passAt ok.tk σ) I1 r q
end
end Mir
end

/-! MirSame -/
section
set_option Elab.async false
set_option linter.all false
set_option maxRecDepth 100000
/-! MirSame: == and != of things that are the same, empty dicts in them too. -/
namespace Mir
open PySem L2 PySem.Spec PyProof.Rows
/-- the same, at most n deep -/
def Sm (K : PySem.W.Frag) (H : Hp) : Nat → V → V → Prop
  | 0 => fun x y => (x = y ∧ flatB x = true) ∨ (∃ a b, x = .ref a ∧ y = .ref b ∧ H a = some (.dK []) ∧ H b = some (.dK []))
  | n + 1 => fun x y => (x = y ∧ flatB x = true) ∨ (∃ a b, x = .ref a ∧ y = .ref b ∧ H a = some (.dK []) ∧ H b = some (.dK [])) ∨
    (∃ a b xs ys, x = .ref a ∧ y = .ref b ∧ SqL K H a xs ∧ SqL K H b ys ∧ Paired (Sm K H n) xs ys) ∨
    (∃ a b xs ys, x = .ref a ∧ y = .ref b ∧ SqT K H a xs ∧ SqT K H b ys ∧ Paired (Sm K H n) xs ys)
theorem hits_nil {prog : Program} {w : World} {A : Around} {s : Shared} {kb : List (Key × Value)} : PySem.W.KeqHits A s kb [] true := .nil
section
variable {X : L2.Cx} {pins : List (Addr × Obj)} {σ : L2.St} {H : Hp} {s : Shared}
theorem dict_of (I : Inv X pins σ H s) {a : Addr} (h : H a = some (.dK [])) (P : Program) (w : World) : (a == sysModules) = false ∧ s.heap.DictOf (mixKind P w) a [] := by
  obtain ⟨_, ya, va, ra, da⟩ := (show ObjOk X.prog X.w H s.heap a (.dK []) from I.hok a _ h)
  refine ⟨ya, ?_⟩
  have e : va = [] := List.eq_nil_of_length_eq_zero ra.length.symm
  subst e
  obtain ⟨o, es, ep, h1, h2, h3, h4, h5, h6⟩ := da
  have e : es = #[] := by
    have := h5.length
    simpa using this
  subst e
  exact ⟨o, #[], ep, h1, h2, h3, fun e he => by simp at he, .nil, h6⟩
theorem rc_dicts (I : Inv X pins σ H s) {A : Around} (hu : A.units < cLine) {a b : Addr} (ha : H a = some (.dK [])) (hb : H b = some (.dK [])) : SeqAt.RcAt A s (.ref a) (.ref b) true := fun prog w E Q q => by
  obtain ⟨ya, da⟩ := dict_of I ha prog w
  obtain ⟨yb, db⟩ := dict_of I hb prog w
  exact PySem.W.keq_eq (knd := mixKind prog w) (r := true) ya yb da db hu (fun _ => .nil) (by simpa using q)
theorem rcn_dicts (I : Inv X pins σ H s) {A : Around} (hu : A.units < cLine) {a b : Addr} (ha : H a = some (.dK [])) (hb : H b = some (.dK [])) : SeqAt.RcNeAt A s (.ref a) (.ref b) false := fun prog w E Q q => by
  obtain ⟨ya, da⟩ := dict_of I ha prog w
  obtain ⟨yb, db⟩ := dict_of I hb prog w
  exact PySem.W.keq_ne (knd := mixKind prog w) (r := true) ya yb da db hu (fun _ => .nil) (by simpa using q)
theorem eq_of_rc {A : Around} {a b : Addr} (h : SeqAt.RcAt A s (.ref a) (.ref b) true) : SeqAt.EqAt A s (.ref a) (.ref b) true := by
  by_cases e : a = b
  · subst e; exact SeqAt.EqAt.same _
  · exact SeqAt.EqAt.of_refs e h
theorem items_eq {A : Around} {F : V → V → Prop} (ih : ∀ x y v u, F x y → RelV x v → RelV y u → SeqAt.EqAt A s v u true) {xs ys : List V} (hp : Paired F xs ys) :
    ∀ {us ws : List Value}, Vals xs us → Vals ys ws → us.length = ws.length ∧ ∀ j (h1 : j < us.length) (h2 : j < ws.length), SeqAt.EqAt A s us[j] ws[j] true := by
  induction hp with
  | nil =>
    intro us ws r1 r2
    cases r1
    cases r2
    exact ⟨rfl, fun j h1 h2 => absurd h1 (Nat.not_lt_zero j)⟩
  | cons h _ k =>
    intro us ws r1 r2
    cases r1 with
    | cons a1 b1 =>
      cases r2 with
      | cons a2 b2 =>
        obtain ⟨e, k⟩ := k b1 b2
        refine ⟨by simp [e], fun j h1 h2 => ?_⟩
        cases j with
        | zero => exact ih _ _ _ _ h a1 a2
        | succ j => exact k j (Nat.lt_of_succ_lt_succ h1) (Nat.lt_of_succ_lt_succ h2)
theorem all_true (n : Nat) : ((List.range n).all fun _ => true) = true := List.all_eq_true.mpr fun _ _ => rfl
theorem rc_pairs (I : Inv X pins σ H s) {A : Around} (hu : A.units < cLine) {F : V → V → Prop} (ih : ∀ x y v u, F x y → RelV x v → RelV y u → SeqAt.EqAt A.in1 s v u true) {a b : Addr} {xs ys : List V} (hp : Paired F xs ys)
    (h : (SqL X.K H a xs ∧ SqL X.K H b ys) ∨ (SqT X.K H a xs ∧ SqT X.K H b ys)) : SeqAt.RcAt A s (.ref a) (.ref b) true ∧ SeqAt.RcNeAt A s (.ref a) (.ref b) false := by
  rcases h with ⟨ha, hb⟩ | ⟨ha, hb⟩
  · obtain ⟨us, r1, p1, _⟩ := I.list ha
    obtain ⟨ws, r2, p2, _⟩ := I.list hb
    obtain ⟨hl, k⟩ := items_eq ih hp r1 r2
    have hsz : us.toArray.size = ws.toArray.size := by simpa using hl
    have he : ∀ j (h1 : j < us.toArray.size) (h2 : j < ws.toArray.size), SeqAt.EqAt A.in1 s us.toArray[j] ws.toArray[j] ((fun _ => true) j) := fun j h1 h2 => by
      have := k j (by simpa using h1) (by simpa using h2)
      simpa using this
    have c1 := SeqAt.RcAt.lists (e := fun _ => true) p1.isList p2.isList hsz hu he
    have c2 := SeqAt.RcNeAt.lists (e := fun _ => true) p1.isList p2.isList hsz hu he
    rw [all_true] at c1 c2
    exact ⟨c1, c2⟩
  · obtain ⟨us, r1, p1, _⟩ := I.tuple ha
    obtain ⟨ws, r2, p2, _⟩ := I.tuple hb
    obtain ⟨hl, k⟩ := items_eq ih hp r1 r2
    have hsz : us.toArray.size = ws.toArray.size := by simpa using hl
    have he : ∀ j (h1 : j < us.toArray.size) (h2 : j < ws.toArray.size), SeqAt.EqAt A.in1 s us.toArray[j] ws.toArray[j] ((fun _ => true) j) := fun j h1 h2 => by
      have := k j (by simpa using h1) (by simpa using h2)
      simpa using this
    have c1 := SeqAt.RcAt.tuples (e := fun _ => true) p1 p2 hu he
    have c2 := SeqAt.RcNeAt.tuples (e := fun _ => true) p1 p2 hu he
    rw [all_true, hsz] at c1 c2
    simp only [beq_self_eq_true, Bool.and_self, Bool.not_true] at c1 c2
    exact ⟨c1, c2⟩
theorem sm_eq (I : Inv X pins σ H s) : ∀ (n : Nat) (A : Around), A.units + n < cLine → ∀ (x y : V) (v u : Value), Sm X.K H n x y → RelV x v → RelV y u → SeqAt.EqAt A s v u true := by
  intro n
  induction n with
  | zero =>
    intro A hu x y v u h rx ry
    rcases h with ⟨rfl, f⟩ | ⟨a, b, rfl, rfl, ha, hb⟩
    · exact eqAt_same rx ry f
    · cases (show v = Value.ref a from rx)
      cases (show u = Value.ref b from ry)
      exact eq_of_rc (rc_dicts I (by omega) ha hb)
  | succ n ih =>
    intro A hu x y v u h rx ry
    have ih' := ih A.in1 (by show A.units + 1 + n < cLine; omega)
    rcases h with ⟨rfl, f⟩ | ⟨a, b, rfl, rfl, ha, hb⟩ | ⟨a, b, xs, ys, rfl, rfl, ha, hb, hp⟩ | ⟨a, b, xs, ys, rfl, rfl, ha, hb, hp⟩
    · exact eqAt_same rx ry f
    · cases (show v = Value.ref a from rx)
      cases (show u = Value.ref b from ry)
      exact eq_of_rc (rc_dicts I (by omega) ha hb)
    · cases (show v = Value.ref a from rx)
      cases (show u = Value.ref b from ry)
      exact eq_of_rc (rc_pairs I (by omega) ih' hp (.inl ⟨ha, hb⟩)).1
    · cases (show v = Value.ref a from rx)
      cases (show u = Value.ref b from ry)
      exact eq_of_rc (rc_pairs I (by omega) ih' hp (.inr ⟨ha, hb⟩)).1
end
/-- the things that are compared: no flat ones -/
def SmR (K : PySem.W.Frag) (H : Hp) (n : Nat) (x y : V) : Prop := Sm K H n x y ∧ flatB x = false
theorem sm_rc {X : L2.Cx} {pins : List (Addr × Obj)} {σ : L2.St} {H : Hp} {s : Shared} (I : Inv X pins σ H s) {n : Nat} {A : Around} (hu : A.units + n < cLine) {x y : V} {v u : Value} (h : SmR X.K H n x y) (rx : RelV x v) (ry : RelV y u) : SeqAt.RcAt A s v u true ∧ SeqAt.RcNeAt A s v u false := by
  obtain ⟨h, nf⟩ := h
  cases n with
  | zero =>
    rcases h with ⟨rfl, f⟩ | ⟨a, b, rfl, rfl, ha, hb⟩
    · rw [f] at nf; cases nf
    · cases (show v = Value.ref a from rx)
      cases (show u = Value.ref b from ry)
      exact ⟨rc_dicts I (by omega) ha hb, rcn_dicts I (by omega) ha hb⟩
  | succ n =>
    have ih' := sm_eq I n A.in1 (by show A.units + 1 + n < cLine; omega)
    rcases h with ⟨rfl, f⟩ | ⟨a, b, rfl, rfl, ha, hb⟩ | ⟨a, b, xs, ys, rfl, rfl, ha, hb, hp⟩ | ⟨a, b, xs, ys, rfl, rfl, ha, hb, hp⟩
    · rw [f] at nf; cases nf
    · cases (show v = Value.ref a from rx)
      cases (show u = Value.ref b from ry)
      exact ⟨rc_dicts I (by omega) ha hb, rcn_dicts I (by omega) ha hb⟩
    · cases (show v = Value.ref a from rx)
      cases (show u = Value.ref b from ry)
      exact rc_pairs I (by omega) ih' hp (.inl ⟨ha, hb⟩)
    · cases (show v = Value.ref a from rx)
      cases (show u = Value.ref b from ry)
      exact rc_pairs I (by omega) ih' hp (.inr ⟨ha, hb⟩)
def rEqX (K : PySem.W.Frag) : R2 := fun x y H Q => ∃ n, n ≤ 60 ∧ SmR K H n x y ∧ Q (.bl true) H
def rNeX (K : PySem.W.Frag) : R2 := fun x y H Q => ∃ n, n ≤ 60 ∧ SmR K H n x y ∧ Q (.bl false) H
theorem op_eqX {X : L2.Cx} (hu : X.A.units + 64 < cLine) : OpR X (compareOp .Eq) (rEqX X.K) := by
  intro pins s σ H x y v u Q I rx ry h
  obtain ⟨n, hn, h, q⟩ := h
  exact (sm_rc I (by omega) h rx ry).1 _ _ _ _ ⟨.bl true, H, I, rfl, q⟩
theorem op_neX {X : L2.Cx} (hu : X.A.units + 64 < cLine) : OpR X (compareOp .NotEq) (rNeX X.K) := by
  intro pins s σ H x y v u Q I rx ry h
  obtain ⟨n, hn, h, q⟩ := h
  exact (sm_rc I (by omega) h rx ry).2 _ _ _ _ ⟨.bl false, H, I, rfl, q⟩
end Mir
end

/-! MirOps -/
section
set_option Elab.async false
set_option linter.all false
set_option maxRecDepth 100000
/-! MirOps: the operations on values. -/
namespace Mir
open PySem L2

section
variable {K : PySem.W.Frag} {mg : Str → Option Value} {g : Gh} {S : Sto} {H : Hp}
/-! ### Now: inversion -/
theorem Now.int {i : Int} {v : V} (h : Now K mg g H (.int i) v) : v = .int i := by
  cases h with
  | rep _ h => cases h; rfl
theorem Now.str {s : List Nat} {v : V} (h : Now K mg g H (.str s) v) : v = .str (mkS s) := by
  cases h with
  | rep _ h => cases h; rfl
theorem Now.byt {s : List Nat} {v : V} (h : Now K mg g H (.byt s) v) : v = .byt (mkB s) ∧ ∀ x ∈ s, x < 256 := by
  cases h with
  | rep _ h => cases h with | byt hb => exact ⟨rfl, hb⟩
theorem Now.of_lst {xs : List D} {v : V} (h : Now K mg g H (.lst xs) v) : ∃ a vs, v = .ref a ∧ H a = some (.lst vs) ∧ Reps K mg g xs vs := by
  cases h with
  | lst h1 h2 => exact ⟨_, _, rfl, h1, h2⟩
  | rep n _ => exact absurd rfl (n _)
theorem Now.of_frz (r : SRel K mg g S H) {xs : List D} {v : V} (h : Now K mg g H (.frz xs) v) : ∃ a vs, v = .ref a ∧ SqL K H a vs ∧ Reps K mg g xs vs := by
  cases h with
  | rep _ h =>
    obtain ⟨a, vs, h1, h2, h3⟩ := Reps.of_frz h
    exact ⟨a, vs, h1, sub_SqL r h2, h3⟩
theorem Now.of_tup (r : SRel K mg g S H) {xs : List D} {v : V} (h : Now K mg g H (.tup xs) v) : ∃ a vs, v = .ref a ∧ SqT K H a vs ∧ Reps K mg g xs vs := by
  cases h with
  | rep _ h =>
    obtain ⟨a, vs, h1, h2, h3⟩ := Reps.of_tup h
    exact ⟨a, vs, h1, sub_SqT r h2, h3⟩
theorem mkS_app (a b : List Nat) : mkS a ++ mkS b = mkS (a ++ b) := by
  show Str.mk (a.toArray ++ b.toArray) = Str.mk _
  rw [List.append_toArray]
theorem mkB_app (a b : List Nat) : mkB a ++ mkB b = mkB (a ++ b) := by
  unfold mkB
  rw [List.map_append, List.append_toArray]
/-- a new frozen list -/
theorem newLst (r : SRel K mg g S H) {xs : List D} {vs : List V} (h : Reps K mg g xs vs) {Q : VK} (q : ∀ g' H' w, Ext K mg g H g' H' → Rep K mg g' (.lst xs) w → Q w H') {p : Addr} (hp : H p = none) : Q (.ref p) (upd H p (.lst vs)) := by
  have x := Ext.frz (o := .lst vs) r hp
  exact q _ _ _ x ((h.mono x.le).lst (by show upd g.F p _ p = _; exact upd_same))
theorem newTup (r : SRel K mg g S H) {xs : List D} {vs : List V} (h : Reps K mg g xs vs) {Q : VK} (q : ∀ g' H' w, Ext K mg g H g' H' → Rep K mg g' (.tup xs) w → Q w H') {p : Addr} (hp : H p = none) : Q (.ref p) (upd H p (.tup vs)) := by
  have x := Ext.frz (o := .tup vs) r hp
  exact q _ _ _ x ((h.mono x.le).tup (.inl (.inl (by show upd g.F p _ p = _; exact upd_same))))
end
section
variable {X : Cx} {xc : Xc}
/-! ### + -/
def rAddS : R2 := fun x y H Q => (∃ i j, x = .int i ∧ y = .int j ∧ Q (.int (i + j)) H) ∨ (∃ i j, x = .str i ∧ y = .str j ∧ i.length + j.length ≤ sizeLine ∧ Q (.str (i ++ j)) H) ∨ (∃ i j, x = .byt i ∧ y = .byt j ∧ i.size + j.size ≤ 16777216 ∧ Q (.byt (i ++ j)) H) ∨ rCat x y H Q
theorem op_addS : OpR X (binaryOp .Add) rAddS := op_add.or (op_add_str.or (op_add_byt.or op_cat))
theorem ol_add : OpL X.K X.mg addS rAddS := fun g S H x y z v u Q r hx hy hz q => by
  have nx := Now.of r hx
  have ny := Now.of r hy
  unfold addS at hz
  revert hz nx ny
  generalize deref S x = x'
  generalize deref S y = y'
  intro hz nx ny
  split at hz
  · cases hz
    exact .inl ⟨_, _, nx.int, ny.int, q g H _ (.refl g H) .int⟩
  · split at hz
    · rename_i hl
      cases hz
      refine .inr (.inl ⟨_, _, nx.str, ny.str, by rw [mkS_len, mkS_len, ← line_eq]; exact hl, ?_⟩)
      rw [mkS_app]
      exact q g H _ (.refl g H) .str
    · cases hz
  · split at hz
    · rename_i hl
      cases hz
      obtain ⟨e1, b1⟩ := nx.byt
      obtain ⟨e2, b2⟩ := ny.byt
      refine .inr (.inr (.inl ⟨_, _, e1, e2, by rw [mkB_len, mkB_len]; exact hl, ?_⟩))
      rw [mkB_app]
      exact q g H _ (.refl g H) (.byt fun x hx => (List.mem_append.mp hx).elim (b1 x) (b2 x))
    · cases hz
  · split at hz
    · rename_i hl
      cases hz
      obtain ⟨a, vs, rfl, h1, h2⟩ := nx.of_lst
      obtain ⟨b, us, rfl, h3, h4⟩ := ny.of_lst
      exact .inr (.inr (.inr ⟨a, b, vs, us, rfl, rfl, h1, h3, by rw [h2.len, h4.len, ← line_eq]; exact hl, fun p hp => newLst r (h2.append h4) q hp⟩))
    · cases hz
  · cases hz
theorem re_add {a b : Expr} {pos : Pos} {fa fb : SE} (ha : RE X xc a fa) (hb : RE X xc b fb) : RE X xc (.BinOp a .Add b pos) (op2 addS fa fb) := re_op op_addS ol_add ha hb
/-- two twoI -/
theorem twoI {f : Sto → D → D → Option D} {C : Int → Int → Prop} {h : Int → Int → Int} (hf : ∀ S x y z, f S x y = some z → ∃ i j, x = .int i ∧ y = .int j ∧ C i j ∧ z = .int (h i j)) : OpL X.K X.mg f (rI C fun i j => .int (h i j)) := fun g S H x y z v u Q r hx hy hz q => by
  obtain ⟨i, j, rfl, rfl, hc, rfl⟩ := hf S x y z hz
  cases hx
  cases hy
  exact ⟨i, j, rfl, rfl, hc, q g H _ (.refl g H) .int⟩
theorem twoI0 {f : Sto → D → D → Option D} {h : Int → Int → Int} (hf : ∀ S x y z, f S x y = some z → ∃ i j, x = .int i ∧ y = .int j ∧ z = .int (h i j)) : OpL X.K X.mg f (rI0 fun i j => .int (h i j)) := fun g S H x y z v u Q r hx hy hz q => by
  obtain ⟨i, j, rfl, rfl, rfl⟩ := hf S x y z hz
  cases hx
  cases hy
  exact ⟨i, j, rfl, rfl, q g H _ (.refl g H) .int⟩
theorem twoIB {f : Sto → D → D → Option Bool} {h : Int → Int → Bool} (hf : ∀ S x y k, f S x y = some k → ∃ i j, x = .int i ∧ y = .int j ∧ k = h i j) : OpB X.K X.mg f (rI0 fun i j => .bl (h i j)) := fun g S H x y k v u Q r hx hy hz q => by
  obtain ⟨i, j, rfl, rfl, rfl⟩ := hf S x y k hz
  cases hx
  cases hy
  exact ⟨i, j, rfl, rfl, q⟩
theorem re_sub {a b : Expr} {pos : Pos} {fa fb : SE} (ha : RE X xc a fa) (hb : RE X xc b fb) : RE X xc (.BinOp a .Sub b pos) (op2 subS fa fb) := re_op op_sub (twoI0 fun S x y z h => by
  unfold subS at h
  split at h
  · cases h; exact ⟨_, _, rfl, rfl, rfl⟩
  · cases h) ha hb
theorem two64_eq : two64 = 2 ^ 64 := by decide
theorem re_fdiv {a b : Expr} {pos : Pos} {fa fb : SE} (ha : RE X xc a fa) (hb : RE X xc b fb) : RE X xc (.BinOp a .FloorDiv b pos) (op2 fdivS fa fb) := re_op op_fdivW (twoI fun S x y z h => by
  unfold fdivS at h
  split at h
  · rename_i i j
    split at h
    · rename_i hc
      cases h
      refine ⟨_, _, rfl, rfl, wide_div (b := 64) hc.1 ?_ (by decide) (by decide), rfl⟩
      have h2 := hc.2
      rw [two64_eq] at h2
      omega
    · cases h
  · cases h) ha hb
theorem re_mod {a b : Expr} {pos : Pos} {fa fb : SE} (ha : RE X xc a fa) (hb : RE X xc b fb) : RE X xc (.BinOp a .Mod b pos) (op2 modS fa fb) := re_op op_mod (twoI fun S x y z h => by
  unfold modS at h
  split at h
  · split at h
    · rename_i hc
      cases h
      exact ⟨_, _, rfl, rfl, hc, rfl⟩
    · cases h
  · cases h) ha hb
theorem re_pow {a b : Expr} {pos : Pos} {fa fb : SE} (ha : RE X xc a fa) (hb : RE X xc b fb) : RE X xc (.BinOp a .Pow b pos) (op2 powS fa fb) := re_op op_pow (twoI fun S x y z h => by
  unfold powS at h
  split at h
  · split at h
    · rename_i hc
      cases h
      refine ⟨_, _, rfl, rfl, ⟨hc.1.1, hc.1.2, ?_⟩, rfl⟩
      have h2 := hc.2
      rw [two64_eq] at h2
      omega
    · cases h
  · cases h) ha hb
theorem re_band {a b : Expr} {pos : Pos} {fa fb : SE} (ha : RE X xc a fa) (hb : RE X xc b fb) : RE X xc (.BinOp a .BitAnd b pos) (op2 bandS fa fb) := re_op op_and (twoI0 fun S x y z h => by
  unfold bandS at h
  split at h
  · split at h
    · rename_i hc
      cases h
      refine ⟨_, _, rfl, rfl, ?_⟩
      unfold Builtin.bitAnd
      rw [decide_eq_true hc.1, decide_eq_true hc.2]
    · cases h
  · cases h) ha hb
theorem re_shr {a b : Expr} {pos : Pos} {fa fb : SE} (ha : RE X xc a fa) (hb : RE X xc b fb) : RE X xc (.BinOp a .RShift b pos) (op2 shrS fa fb) := re_op op_shr (twoI fun S x y z h => by
  unfold shrS at h
  split at h
  · split at h
    · rename_i hc
      cases h
      exact ⟨_, _, rfl, rfl, hc, rfl⟩
    · cases h
  · cases h) ha hb
/-! ### * -/
theorem Reps.rep {K : PySem.W.Frag} {mg : Str → Option Value} {g : Gh} {xs : List D} {vs : List V} (h : Reps K mg g xs vs) : ∀ n : Nat, Reps K mg g (List.replicate n xs).flatten (List.replicate n vs).flatten
  | 0 => .nil
  | n + 1 => by
    rw [List.replicate_succ, List.replicate_succ, List.flatten_cons, List.flatten_cons]
    exact h.append (h.rep n)
def rMulS : R2 := fun x y H Q => rI CMul (fun i j => .int (i * j)) x y H Q ∨ rRep x y H Q
theorem op_mulS : OpR X (binaryOp .Mult) rMulS := op_mul.or op_rep
theorem ol_mul : OpL X.K X.mg mulS rMulS := fun g S H x y z v u Q r hx hy hz q => by
  have nx := Now.of r hx
  unfold mulS at hz
  revert hz nx
  generalize deref S x = x'
  intro hz nx
  split at hz
  · split at hz
    · rename_i hc
      cases hz
      cases hy
      unfold mulOk at hc
      have hc' := of_decide_eq_true hc
      rw [two64_eq] at hc'
      exact .inl ⟨_, _, nx.int, rfl, hc', q g H _ (.refl g H) .int⟩
    · cases hz
  · split at hz
    · rename_i hc
      cases hz
      cases hy
      obtain ⟨a, vs, rfl, h1, h2⟩ := nx.of_lst
      refine .inr ⟨a, _, vs, rfl, rfl, h1, by have := hc.1.1; omega, by have := hc.1.2; omega, by rw [h2.len, ← line_eq]; exact hc.2, fun p hp => newLst r (h2.rep _) q hp⟩
    · cases hz
  · cases hz
theorem re_mul {a b : Expr} {pos : Pos} {fa fb : SE} (ha : RE X xc a fa) (hb : RE X xc b fb) : RE X xc (.BinOp a .Mult b pos) (op2 mulS fa fb) := re_op op_mulS ol_mul ha hb
theorem re_neg {a : Expr} {pos : Pos} {fa : SE} (ha : RE X xc a fa) : RE X xc (.UnaryOp .USub a pos) (op1 negS fa) := re_un un_neg (fun g S H x z v Q r hx hz q => by
  unfold negS at hz
  split at hz
  · cases hz
    cases hx
    exact ⟨_, rfl, q g H _ (.refl g H) .int⟩
  · cases hz) ha

/-! ### comparisons -/
theorem ob_lt : OpB X.K X.mg ltS (rI0 fun i j => .bl (decide (i < j))) := twoIB fun S x y k h => by
  unfold ltS at h
  split at h
  · cases h; exact ⟨_, _, rfl, rfl, rfl⟩
  · cases h
theorem ob_le : OpB X.K X.mg leS (rI0 fun i j => .bl (decide (i ≤ j))) := twoIB fun S x y k h => by
  unfold leS at h
  split at h
  · cases h; exact ⟨_, _, rfl, rfl, rfl⟩
  · cases h
theorem ob_gt : OpB X.K X.mg gtS (rI0 fun i j => .bl (decide (j < i))) := twoIB fun S x y k h => by
  unfold gtS at h
  split at h
  · cases h; exact ⟨_, _, rfl, rfl, rfl⟩
  · cases h
theorem ob_ge : OpB X.K X.mg geS (rI0 fun i j => .bl (decide (j ≤ i))) := twoIB fun S x y k h => by
  unfold geS at h
  split at h
  · cases h; exact ⟨_, _, rfl, rfl, rfl⟩
  · cases h
mutual
/-- a tree as the library's data -/
def toPy : D → PyData
  | .non => .none
  | .bl b => .bool b
  | .int i => .int i
  | .str s => .str (mkS s)
  | .lst xs => .list (toPyL xs)
  | .tup xs => .tuple (toPyL xs)
  | _ => .none
def toPyL : List D → List PyData
  | [] => []
  | d :: ds => toPy d :: toPyL ds
end
theorem mkS_beq (a b : List Nat) : (mkS a == mkS b) = (a == b) := by
  rw [Bool.eq_iff_iff, beq_iff_eq, beq_iff_eq]
  constructor
  · intro h
    have h1 : a.toArray = b.toArray := congrArg Str.cps h
    simpa using h1
  · intro h; rw [h]
mutual
theorem toPy_eqv : ∀ (n m : Nat) (x y : D), x.dataN n = true → y.dataN m = true → PyData.eqv (toPy x) (toPy y) = x.eqv y
  | n, m, .lst xs, .lst ys, hx, hy => by
    rw [D.dataN, Bool.and_eq_true_iff] at hx hy
    rw [toPy, toPy, PyData.eqv, D.eqv]
    exact toPyL_eqv _ _ xs ys hx.2 hy.2
  | n, m, .tup xs, .tup ys, hx, hy => by
    rw [D.dataN, Bool.and_eq_true_iff] at hx hy
    rw [toPy, toPy, PyData.eqv, D.eqv]
    exact toPyL_eqv _ _ xs ys hx.2 hy.2
  | n, m, .str a, .str b, _, _ => by
    rw [toPy, toPy, PyData.eqv, D.eqv, mkS_beq]
  | _, _, .non, .non, _, _ | _, _, .bl _, .bl _, _, _ | _, _, .int _, .int _, _, _ => by simp [toPy, PyData.eqv, D.eqv]
  | _, _, .bl a, .int _, _, _ => by cases a <;> simp [toPy, PyData.eqv, D.eqv, b2n]
  | _, _, .int _, .bl b, _, _ => by cases b <;> simp [toPy, PyData.eqv, D.eqv, b2n]
  | _, _, .non, .bl _, _, _ | _, _, .non, .int _, _, _ | _, _, .non, .str _, _, _ | _, _, .non, .lst _, _, _ | _, _, .non, .tup _, _, _ => by simp [toPy, PyData.eqv, D.eqv]
  | _, _, .bl _, .non, _, _ | _, _, .bl _, .str _, _, _ | _, _, .bl _, .lst _, _, _ | _, _, .bl _, .tup _, _, _ => by simp [toPy, PyData.eqv, D.eqv]
  | _, _, .int _, .non, _, _ | _, _, .int _, .str _, _, _ | _, _, .int _, .lst _, _, _ | _, _, .int _, .tup _, _, _ => by simp [toPy, PyData.eqv, D.eqv]
  | _, _, .str _, .non, _, _ | _, _, .str _, .bl _, _, _ | _, _, .str _, .int _, _, _ | _, _, .str _, .lst _, _, _ | _, _, .str _, .tup _, _, _ => by simp [toPy, PyData.eqv, D.eqv]
  | _, _, .lst _, .non, _, _ | _, _, .lst _, .bl _, _, _ | _, _, .lst _, .int _, _, _ | _, _, .lst _, .str _, _, _ | _, _, .lst _, .tup _, _, _ => by simp [toPy, PyData.eqv, D.eqv]
  | _, _, .tup _, .non, _, _ | _, _, .tup _, .bl _, _, _ | _, _, .tup _, .int _, _, _ | _, _, .tup _, .str _, _, _ | _, _, .tup _, .lst _, _, _ => by simp [toPy, PyData.eqv, D.eqv]
  | _, _, .byt _, _, h, _ | _, _, .frz _, _, h, _ | _, _, .ins _ _, _, h, _ | _, _, .exn _ _, _, h, _ | _, _, .gl _, _, h, _ | _, _, .ty _, _, h, _ | _, _, .edi, _, h, _ | _, _, .ref _, _, h, _ => by simp [D.dataN] at h
  | _, _, _, .byt _, _, h | _, _, _, .frz _, _, h | _, _, _, .ins _ _, _, h | _, _, _, .exn _ _, _, h | _, _, _, .gl _, _, h | _, _, _, .ty _, _, h | _, _, _, .edi, _, h | _, _, _, .ref _, _, h => by simp [D.dataN] at h
theorem toPyL_eqv : ∀ (n m : Nat) (xs ys : List D), dataL n xs = true → dataL m ys = true → PyData.eqvAll (toPyL xs) (toPyL ys) = eqvL xs ys
  | _, _, [], [], _, _ => by simp [toPyL, PyData.eqvAll, eqvL]
  | _, _, [], _ :: _, _, _ => by simp [toPyL, PyData.eqvAll, eqvL]
  | _, _, _ :: _, [], _, _ => by simp [toPyL, PyData.eqvAll, eqvL]
  | n, m, x :: xs, y :: ys, hx, hy => by
    rw [dataL, Bool.and_eq_true_iff] at hx hy
    rw [toPyL, toPyL, PyData.eqvAll, eqvL, toPy_eqv n m x y hx.1 hy.1, toPyL_eqv n m xs ys hx.2 hy.2]
end
mutual
theorem toPy_ok : ∀ (n : Nat) (x : D), x.dataN n = true → (toPy x).canLay0 = true ∧ (toPy x).depth ≤ n
  | n, .lst xs, h => by
    rw [D.dataN, Bool.and_eq_true_iff] at h
    have h0 := of_decide_eq_true h.1
    obtain ⟨h1, h2⟩ := toPyL_ok _ xs h.2
    exact ⟨by rw [toPy, PyData.canLay0]; exact h1, by rw [toPy, PyData.depth]; omega⟩
  | n, .tup xs, h => by
    rw [D.dataN, Bool.and_eq_true_iff] at h
    have h0 := of_decide_eq_true h.1
    obtain ⟨h1, h2⟩ := toPyL_ok _ xs h.2
    exact ⟨by rw [toPy, PyData.canLay0]; exact h1, by rw [toPy, PyData.depth]; omega⟩
  | n, .str s, h => by
    rw [D.dataN] at h
    refine ⟨?_, by rw [toPy, PyData.depth]; omega⟩
    rw [toPy, PyData.canLay0]
    show (s.toArray.all fun x => decide (x < 0x110000)) = true
    rw [List.all_toArray]
    exact h
  | n, .non, _ | n, .bl _, _ | n, .int _, _ => by simp [toPy, PyData.canLay0, PyData.depth]
  | _, .byt _, h | _, .frz _, h | _, .ins _ _, h | _, .exn _ _, h | _, .gl _, h | _, .ty _, h | _, .edi, h | _, .ref _, h => by simp [D.dataN] at h
theorem toPyL_ok : ∀ (n : Nat) (xs : List D), dataL n xs = true → PyData.canLayAll0 (toPyL xs) = true ∧ PyData.depthAll (toPyL xs) ≤ n
  | _, [], _ => by simp [toPyL, PyData.canLayAll0, PyData.depthAll]
  | n, x :: xs, h => by
    rw [dataL, Bool.and_eq_true_iff] at h
    obtain ⟨h1, h2⟩ := toPy_ok n x h.1
    obtain ⟨h3, h4⟩ := toPyL_ok n xs h.2
    refine ⟨by rw [toPyL, PyData.canLayAll0, h1, h3]; rfl, by rw [toPyL, PyData.depthAll]; omega⟩
end
theorem Rep.dp {K : PySem.W.Frag} {mg : Str → Option Value} {g : Gh} {S : Sto} {H : Hp} (r : SRel K mg g S H) {d : D} {v : V} (h : Rep K mg g d v) : ∀ n : Nat, d.dataN n = true → Dp K H v (toPy d) := by
  have all : ∀ (n : Nat) (ds : List D) (vs : List V), vs.length = ds.length → (∀ (i : Nat) d v, ds[i]? = some d → vs[i]? = some v → ∀ n : Nat, d.dataN n = true → Dp K H v (toPy d)) → dataL n ds = true → DpAll K H vs (toPyL ds) := by
    intro n ds
    induction ds with
    | nil =>
      intro vs hl _ _
      rw [List.eq_nil_of_length_eq_zero hl, toPyL]
      exact .nil
    | cons a ds ih =>
      intro vs hl ha hd
      cases vs with
      | nil => simp at hl
      | cons v vs =>
        rw [dataL, Bool.and_eq_true_iff] at hd
        rw [toPyL]
        exact .cons (ha 0 a v rfl rfl n hd.1) (ih vs (by simpa using hl) (fun i d v e1 e2 => ha (i + 1) d v (by simpa using e1) (by simpa using e2)) hd.2)
  induction h with
  | non => intro _ _; rw [toPy]; exact .non
  | bl => intro _ _; rw [toPy]; exact .bl _
  | int => intro _ _; rw [toPy]; exact .int _
  | str => intro _ _; rw [toPy]; exact .str _
  | lst h1 h2 _ ih =>
    intro n hn
    rw [D.dataN, Bool.and_eq_true_iff] at hn
    rw [toPy]
    exact .lst (SqL.of (r.sub _ _ h1)) (all _ _ _ h2 ih hn.2)
  | tup h1 h2 _ ih =>
    intro n hn
    rw [D.dataN, Bool.and_eq_true_iff] at hn
    rw [toPy]
    exact .tup (sub_SqT r h1) (all _ _ _ h2 ih hn.2)
  | _ => intro _ hn; simp [D.dataN] at hn
theorem Now.dp {K : PySem.W.Frag} {mg : Str → Option Value} {g : Gh} {S : Sto} {H : Hp} (r : SRel K mg g S H) {d : D} {v : V} (h : Now K mg g H d v) {n : Nat} (hn : d.dataN n = true) : Dp K H v (toPy d) := by
  cases h with
  | @lst a vs ds h1 h2 =>
    have all : ∀ (ds : List D) (vs : List V), Reps K mg g ds vs → dataL (n - 1) ds = true → DpAll K H vs (toPyL ds) := by
      intro ds
      induction ds with
      | nil => intro vs hr _; rw [hr.inv0, toPyL]; exact .nil
      | cons a ds ih =>
        intro vs hr hd
        obtain ⟨v, vs', rfl, r1, r2⟩ := hr.inv
        rw [dataL, Bool.and_eq_true_iff] at hd
        rw [toPyL]
        exact .cons (r1.dp r _ hd.1) (ih vs' r2 hd.2)
    rw [D.dataN, Bool.and_eq_true_iff] at hn
    rw [toPy]
    exact .lst (SqL.of h1) (all _ _ h2 hn.2)
  | rep _ h => exact h.dp r _ hn
/-- what is the same tree stands as the same things -/
theorem same_sm {K : PySem.W.Frag} {mg : Str → Option Value} {g : Gh} {S : Sto} {H : Hp} (r : SRel K mg g S H) : ∀ (n : Nat) {d e : D} {v u : V}, Rep K mg g d v → Rep K mg g e u → sameD n d e = true → Sm K H n v u := by
  have all : ∀ (n : Nat), (∀ {d e : D} {v u : V}, Rep K mg g d v → Rep K mg g e u → sameD n d e = true → Sm K H n v u) → ∀ (ds es : List D) (vs us : List V), Reps K mg g ds vs → Reps K mg g es us → sameL n ds es = true → Paired (Sm K H n) vs us := by
    intro n ih ds
    induction ds with
    | nil =>
      intro es vs us h1 h2 h
      cases es with
      | nil => rw [h1.inv0, h2.inv0]; exact .nil
      | cons e es => simp [sameL] at h
    | cons d ds ih2 =>
      intro es vs us h1 h2 h
      cases es with
      | nil => simp [sameL] at h
      | cons e es =>
        obtain ⟨v, vs', rfl, r1, r2⟩ := h1.inv
        obtain ⟨u, us', rfl, q1, q2⟩ := h2.inv
        rw [sameL, Bool.and_eq_true] at h
        exact .cons (ih r1 q1 h.1) (ih2 es vs' us' r2 q2 h.2)
  intro n
  induction n with
  | zero =>
    intro d e v u h1 h2 h
    cases d <;> cases e <;> simp [sameD] at h
    case non.non => cases h1; cases h2; exact .inl ⟨rfl, rfl⟩
    case bl.bl => subst h; cases h1; cases h2; exact .inl ⟨rfl, rfl⟩
    case int.int => subst h; cases h1; cases h2; exact .inl ⟨rfl, rfl⟩
    case str.str => subst h; cases h1; cases h2; exact .inl ⟨rfl, rfl⟩
    case byt.byt => subst h; cases h1; cases h2; exact .inl ⟨rfl, rfl⟩
    case edi.edi => cases h1 with | edi a1 => cases h2 with | edi a2 => exact .inr ⟨_, _, rfl, rfl, r.sub _ _ a1, r.sub _ _ a2⟩
  | succ n ih =>
    intro d e v u h1 h2 h
    cases d <;> cases e <;> simp [sameD] at h
    case non.non => cases h1; cases h2; exact .inl ⟨rfl, rfl⟩
    case bl.bl => subst h; cases h1; cases h2; exact .inl ⟨rfl, rfl⟩
    case int.int => subst h; cases h1; cases h2; exact .inl ⟨rfl, rfl⟩
    case str.str => subst h; cases h1; cases h2; exact .inl ⟨rfl, rfl⟩
    case byt.byt => subst h; cases h1; cases h2; exact .inl ⟨rfl, rfl⟩
    case edi.edi => cases h1 with | edi a1 => cases h2 with | edi a2 => exact .inr (.inl ⟨_, _, rfl, rfl, r.sub _ _ a1, r.sub _ _ a2⟩)
    case lst.lst =>
      cases h1 with | lst a1 b1 c1 => cases h2 with | lst a2 b2 c2 =>
        exact .inr (.inr (.inl ⟨_, _, _, _, rfl, rfl, SqL.of (r.sub _ _ a1), SqL.of (r.sub _ _ a2), all n ih _ _ _ _ ⟨b1, c1⟩ ⟨b2, c2⟩ h⟩))
    case tup.tup =>
      cases h1 with | tup a1 b1 c1 => cases h2 with | tup a2 b2 c2 =>
        exact .inr (.inr (.inr ⟨_, _, _, _, rfl, rfl, sub_SqT r a1, sub_SqT r a2, all n ih _ _ _ _ ⟨b1, c1⟩ ⟨b2, c2⟩ h⟩))
theorem Now.lst_of {K : PySem.W.Frag} {mg : Str → Option Value} {g : Gh} {S : Sto} {H : Hp} (r : SRel K mg g S H) {ds : List D} {v : V} (h : Now K mg g H (.lst ds) v) : ∃ a vs, v = .ref a ∧ SqL K H a vs ∧ Reps K mg g ds vs := by
  cases h with
  | @lst a vs ds h1 h2 => exact ⟨a, vs, rfl, SqL.of h1, h2⟩
  | rep _ h => cases h with | lst a1 b1 c1 => exact ⟨_, _, rfl, SqL.of (r.sub _ _ a1), ⟨b1, c1⟩⟩
theorem paired_sm {K : PySem.W.Frag} {mg : Str → Option Value} {g : Gh} {S : Sto} {H : Hp} (r : SRel K mg g S H) (n : Nat) : ∀ (ds es : List D) (vs us : List V), Reps K mg g ds vs → Reps K mg g es us → sameL n ds es = true → Paired (Sm K H n) vs us := by
  intro ds
  induction ds with
  | nil =>
    intro es vs us h1 h2 h
    cases es with
    | nil => rw [h1.inv0, h2.inv0]; exact .nil
    | cons e es => simp [sameL] at h
  | cons d ds ih2 =>
    intro es vs us h1 h2 h
    cases es with
    | nil => simp [sameL] at h
    | cons e es =>
      obtain ⟨v, vs', rfl, r1, r2⟩ := h1.inv
      obtain ⟨u, us', rfl, q1, q2⟩ := h2.inv
      rw [sameL, Bool.and_eq_true] at h
      exact .cons (same_sm r n r1 q1 h.1) (ih2 es vs' us' r2 q2 h.2)
theorem Now.sm {K : PySem.W.Frag} {mg : Str → Option Value} {g : Gh} {S : Sto} {H : Hp} (r : SRel K mg g S H) {n : Nat} {d e : D} {v u : V} (h1 : Now K mg g H d v) (h2 : Now K mg g H e u) (h : sameD (n + 1) d e = true) (hf : notFlat d = true) : SmR K H (n + 1) v u := by
  cases d <;> simp [notFlat] at hf <;> cases e <;> simp [sameD] at h
  case lst.lst ds es =>
    obtain ⟨a, vs, rfl, a1, a2⟩ := h1.lst_of r
    obtain ⟨b, us, rfl, b1, b2⟩ := h2.lst_of r
    exact ⟨.inr (.inr (.inl ⟨_, _, _, _, rfl, rfl, a1, b1, paired_sm r n _ _ _ _ a2 b2 h⟩)), rfl⟩
  case tup.tup ds es =>
    cases h1 with | rep _ h1 => cases h2 with | rep _ h2 =>
      cases h1 with | tup a1 b1 c1 => cases h2 with | tup a2 b2 c2 =>
        exact ⟨.inr (.inr (.inr ⟨_, _, _, _, rfl, rfl, sub_SqT r a1, sub_SqT r a2, paired_sm r n _ _ _ _ ⟨b1, c1⟩ ⟨b2, c2⟩ h⟩)), rfl⟩
  case edi.edi =>
    cases h1 with | rep _ h1 => cases h2 with | rep _ h2 =>
      cases h1 with | edi a1 => cases h2 with | edi a2 => exact ⟨.inr (.inl ⟨_, _, rfl, rfl, r.sub _ _ a1, r.sub _ _ a2⟩), rfl⟩
theorem mkB_inj {a b : List Nat} (ha : ∀ x ∈ a, x < 256) (hb : ∀ x ∈ b, x < 256) (h : mkB a = mkB b) : a = b := by
  have h1 : a.map UInt8.ofNat = b.map UInt8.ofNat := by simpa [mkB] using h
  have h2 : (a.map UInt8.ofNat).map UInt8.toNat = (b.map UInt8.ofNat).map UInt8.toNat := by rw [h1]
  have z : ∀ l : List Nat, (∀ x ∈ l, x < 256) → (l.map UInt8.ofNat).map UInt8.toNat = l := by
    intro l
    induction l with
    | nil => intro _; rfl
    | cons x l ih =>
      intro h
      rw [List.map_cons, List.map_cons, ih fun y hy => h y (List.mem_cons_of_mem _ hy)]
      have : (UInt8.ofNat x).toNat = x := by simp [UInt8.toNat_ofNat', Nat.mod_eq_of_lt (h x List.mem_cons_self)]
      rw [this]
  rw [z a ha, z b hb] at h2
  exact h2
def rEqS (K : PySem.W.Frag) : R2 := fun x y H Q => (rEqD K x y H Q ∨ rEq x y H Q) ∨ rEqX K x y H Q
def rNeS (K : PySem.W.Frag) : R2 := fun x y H Q => (rNeD K x y H Q ∨ rNe x y H Q) ∨ rNeX K x y H Q
theorem ob_eqne (neg : Bool) : OpB X.K X.mg (fun S x y => (eqS S x y).map fun k => if neg then !k else k) (if neg then rNeS X.K else rEqS X.K) := fun g S H x y k v u Q r hx hy hz q => by
  have nx := Now.of r hx
  have ny := Now.of r hy
  dsimp only at hz
  cases hk : eqS S x y with
  | none => rw [hk] at hz; cases hz
  | some k0 =>
    rw [hk] at hz
    have hz' : (if neg then !k0 else k0) = k := Option.some.inj hz
    unfold eqS eqD at hk
    revert hk nx ny
    generalize deref S x = x'
    generalize deref S y = y'
    intro nx ny hk
    split at hk
    · rename_i hd
      rw [Bool.and_eq_true_iff] at hd
      cases hk
      have d1 := nx.dp r hd.1
      have d2 := ny.dp r hd.2
      have e := toPy_eqv 16 16 x' y' hd.1 hd.2
      obtain ⟨c1, p1⟩ := toPy_ok 16 x' hd.1
      obtain ⟨c2, p2⟩ := toPy_ok 16 y' hd.2
      have s1 : SeqAt.shaped (toPy x') = true := by unfold SeqAt.shaped; rw [c1, decide_eq_true (Nat.le_trans p1 (by decide))]; rfl
      have s2 : SeqAt.shaped (toPy y') = true := by unfold SeqAt.shaped; rw [c2, decide_eq_true (Nat.le_trans p2 (by decide))]; rfl
      cases neg with
      | true =>
        refine .inl (.inl ⟨_, _, d1, d2, s1, s2, ?_⟩)
        rw [e]
        rw [← hz'] at q
        exact q
      | false =>
        refine .inl (.inl ⟨_, _, d1, d2, s1, s2, ?_⟩)
        rw [e]
        rw [← hz'] at q
        exact q
    · split at hk
      · rename_i a b _
        cases hk
        obtain ⟨e1, b1⟩ := nx.byt
        obtain ⟨e2, b2⟩ := ny.byt
        subst e1
        subst e2
        have e : decide (V.byt (mkB a) = V.byt (mkB b)) = decide (a = b) := by
          by_cases h : a = b
          · subst h; simp
          · rw [decide_eq_false h, decide_eq_false]
            intro q
            injection q with q
            exact h (mkB_inj b1 b2 q)
        cases neg with
        | true =>
          refine .inl (.inr ⟨rfl, ?_⟩)
          rw [e]
          rw [← hz'] at q
          exact q
        | false =>
          refine .inl (.inr ⟨rfl, ?_⟩)
          rw [e]
          rw [← hz'] at q
          exact q
      · unfold eqX at hk
        split at hk
        · rename_i hs
          rw [Bool.and_eq_true] at hs
          cases hk
          have sm := Now.sm r (n := 15) nx ny hs.2 hs.1
          cases neg with
          | true =>
            refine .inr ⟨16, by decide, sm, ?_⟩
            rw [← hz'] at q
            exact q
          | false =>
            refine .inr ⟨16, by decide, sm, ?_⟩
            rw [← hz'] at q
            exact q
        · cases hk
theorem ob_eq : OpB X.K X.mg eqS (rEqS X.K) := fun g S H x y k v u Q r hx hy hz q => ob_eqne false g S H x y k v u Q r hx hy (by show (eqS S x y).map _ = _; rw [hz]; rfl) q
theorem ob_ne : OpB X.K X.mg neS (rNeS X.K) := fun g S H x y k v u Q r hx hy hz q => ob_eqne true g S H x y k v u Q r hx hy hz q
theorem op_eqS (hu : X.A.units + 64 < cLine) : OpR X (compareOp .Eq) (rEqS X.K) := ((op_eqD hu).or op_eq).or (op_eqX hu)
theorem op_neS (hu : X.A.units + 64 < cLine) : OpR X (compareOp .NotEq) (rNeS X.K) := ((op_neD hu).or op_ne).or (op_neX hu)
theorem Rep.isNone {K : PySem.W.Frag} {mg : Str → Option Value} {g : Gh} {d : D} {v : V} (h : Rep K mg g d v) (hg : isGl d = false) : decide (v = .non) = isNoneD d := by
  cases h with
  | gl h r => simp [isGl] at hg
  | _ => first | rfl | (simp [isNoneD])
theorem ob_is : OpB X.K X.mg isS (fun x y H Q => y = .non ∧ Q (.bl (decide (x = .non))) H) := fun g S H x y k v u Q r hx hy hz q => by
  unfold isS at hz
  split at hz
  · split at hz
    · cases hz
    · rename_i hg
      cases hz
      cases hy
      exact ⟨rfl, by rw [hx.isNone (by simpa using hg)]; exact q⟩
  · cases hz
theorem ob_not : OpB X.K X.mg notS (fun x y H Q => y = .non ∧ Q (.bl (!decide (x = .non))) H) := fun g S H x y k v u Q r hx hy hz q => by
  unfold notS at hz
  split at hz
  · split at hz
    · cases hz
    · rename_i hg
      cases hz
      cases hy
      exact ⟨rfl, by rw [hx.isNone (by simpa using hg)]; exact q⟩
  · cases hz
section
variable {a b : Expr} {pos : Pos} {fa fb : SE}
theorem rt_lt (ha : RE X xc a fa) (hb : RE X xc b fb) : RT X xc (.Compare a [.Lt] [b] pos) (cmpT ltS fa fb) := rt_cmp op_lt ob_lt ha hb (nomark _)
theorem rt_le (ha : RE X xc a fa) (hb : RE X xc b fb) : RT X xc (.Compare a [.LtE] [b] pos) (cmpT leS fa fb) := rt_cmp op_le ob_le ha hb (nomark _)
theorem rt_gt (ha : RE X xc a fa) (hb : RE X xc b fb) : RT X xc (.Compare a [.Gt] [b] pos) (cmpT gtS fa fb) := rt_cmp op_gt ob_gt ha hb (nomark _)
theorem rt_ge (ha : RE X xc a fa) (hb : RE X xc b fb) : RT X xc (.Compare a [.GtE] [b] pos) (cmpT geS fa fb) := rt_cmp op_ge ob_ge ha hb (nomark _)
theorem rt_eq (ha : RE X xc a fa) (hb : RE X xc b fb) : RT X xc (.Compare a [.Eq] [b] pos) (cmpT eqS fa fb) := fun W ok => rt_cmp (op_eqS ok.hu) ob_eq ha hb (nomark _) W ok
theorem rt_ne (ha : RE X xc a fa) (hb : RE X xc b fb) : RT X xc (.Compare a [.NotEq] [b] pos) (cmpT neS fa fb) := fun W ok => rt_cmp (op_neS ok.hu) ob_ne ha hb (nomark _) W ok
theorem rt_is (ha : RE X xc a fa) (hb : RE X xc b fb) : RT X xc (.Compare a [.Is] [b] pos) (cmpT isS fa fb) := rt_cmp op_isN ob_is ha hb (nomark _)
theorem rt_isnot (ha : RE X xc a fa) (hb : RE X xc b fb) : RT X xc (.Compare a [.IsNot] [b] pos) (cmpT notS fa fb) := rt_cmp op_notN ob_not ha hb (nomark _)
theorem re_lt (ha : RE X xc a fa) (hb : RE X xc b fb) : RE X xc (.Compare a [.Lt] [b] pos) (boolM (cmpT ltS fa fb)) := re_cmp op_lt ob_lt ha hb (nomark _)
theorem re_le (ha : RE X xc a fa) (hb : RE X xc b fb) : RE X xc (.Compare a [.LtE] [b] pos) (boolM (cmpT leS fa fb)) := re_cmp op_le ob_le ha hb (nomark _)
theorem re_gt (ha : RE X xc a fa) (hb : RE X xc b fb) : RE X xc (.Compare a [.Gt] [b] pos) (boolM (cmpT gtS fa fb)) := re_cmp op_gt ob_gt ha hb (nomark _)
theorem re_ge (ha : RE X xc a fa) (hb : RE X xc b fb) : RE X xc (.Compare a [.GtE] [b] pos) (boolM (cmpT geS fa fb)) := re_cmp op_ge ob_ge ha hb (nomark _)
theorem re_eq (ha : RE X xc a fa) (hb : RE X xc b fb) : RE X xc (.Compare a [.Eq] [b] pos) (boolM (cmpT eqS fa fb)) := fun W ok => re_cmp (op_eqS ok.hu) ob_eq ha hb (nomark _) W ok
theorem re_ne (ha : RE X xc a fa) (hb : RE X xc b fb) : RE X xc (.Compare a [.NotEq] [b] pos) (boolM (cmpT neS fa fb)) := fun W ok => re_cmp (op_neS ok.hu) ob_ne ha hb (nomark _) W ok
theorem re_is (ha : RE X xc a fa) (hb : RE X xc b fb) : RE X xc (.Compare a [.Is] [b] pos) (boolM (cmpT isS fa fb)) := re_cmp op_isN ob_is ha hb (nomark _)
theorem re_isnot (ha : RE X xc a fa) (hb : RE X xc b fb) : RE X xc (.Compare a [.IsNot] [b] pos) (boolM (cmpT notS fa fb)) := re_cmp op_notN ob_not ha hb (nomark _)
/-- how a comparison stands in a chain -/
def ChR (X : Cx) (op : CmpOp) (f : Sto → D → D → Option Bool) : Prop := ∃ r, OpR X (compareOp op) r ∧ OpB X.K X.mg f r
theorem ch_lt : ChR X .Lt ltS := ⟨_, op_lt, ob_lt⟩
theorem ch_le : ChR X .LtE leS := ⟨_, op_le, ob_le⟩
theorem ch_gt : ChR X .Gt gtS := ⟨_, op_gt, ob_gt⟩
theorem ch_ge : ChR X .GtE geS := ⟨_, op_ge, ob_ge⟩
theorem ch_eq (hu : X.A.units + 64 < cLine) : ChR X .Eq eqS := ⟨_, op_eqS hu, ob_eq⟩
theorem rt_ch {c : Expr} {op op' : CmpOp} {fc : SE} {f f' : Sto → D → D → Option Bool} (h : ChR X op f) (h' : ChR X op' f') (ha : RE X xc a fa) (hb : RE X xc b fb) (hc : RE X xc c fc) (hm : lastMarks [op, op'] [b, c] = false := by with_unfolding_all rfl) : RT X xc (.Compare a [op, op'] [b, c] pos) (chnT f f' fa fb fc) := by
  obtain ⟨r, h1, h2⟩ := h
  obtain ⟨r', h3, h4⟩ := h'
  exact rt_chn h1 h2 h3 h4 ha hb hc hm
theorem re_ch {c : Expr} {op op' : CmpOp} {fc : SE} {f f' : Sto → D → D → Option Bool} (h : ChR X op f) (h' : ChR X op' f') (ha : RE X xc a fa) (hb : RE X xc b fb) (hc : RE X xc c fc) (hm : lastMarks [op, op'] [b, c] = false := by with_unfolding_all rfl) : RE X xc (.Compare a [op, op'] [b, c] pos) (boolM (chnT f f' fa fb fc)) := by
  obtain ⟨r, h1, h2⟩ := h
  obtain ⟨r', h3, h4⟩ := h'
  exact re_chn h1 h2 h3 h4 ha hb hc hm
end
end
end Mir
end

/-! MirSeq -/
section
set_option Elab.async false
set_option linter.all false
set_option maxRecDepth 100000
/-! MirSeq: items, lengths, lists turned, isinstance, slices. -/
namespace Mir
open PySem L2

section
variable {X : Cx} {xc : Xc}
theorem ixD_eq (n : Nat) (i : Int) : ixD n i = ixN n i := rfl
theorem Reps.atI {K : PySem.W.Frag} {mg : Str → Option Value} {g : Gh} {xs : List D} {vs : List V} (h : Reps K mg g xs vs) {j : Int} {z : D} (e : ((ixD xs.length j).bind fun p => xs[p]?) = some z) : ∃ w, L2.atI vs j = some w ∧ Rep K mg g z w := by
  rw [Option.bind_eq_some_iff] at e
  obtain ⟨p, hp, hz⟩ := e
  obtain ⟨w, hw, rw'⟩ := h.get hz
  refine ⟨w, ?_, rw'⟩
  unfold L2.atI
  rw [h.len, ← ixD_eq, hp]
  exact hw
/-! ### o[i] -/
def rIxB : R2 := fun x y H Q => ∃ (z : List UInt8) (i : Int), x = .byt z.toArray ∧ y = .int i ∧ z.length ≤ sizeLine ∧ 0 ≤ i ∧ i < z.length ∧ Q (.int ((z.getD i.toNat 0).toNat : Nat)) H
theorem ix_byt : IxR X rIxB := by
  intro value slice pins s σ H x y v u Q I rx ry q hs
  obtain ⟨z, i, rfl, rfl, hz, h0, h1, q⟩ := q
  obtain ⟨t, rfl⟩ := rx
  obtain ⟨t', rfl⟩ := ry
  have hl : sizeLine = 16777216 := sizeLine_eq
  exact PyProof.Rows.tail_any (PySem.W.typeIs_bytes s z.toArray t) PySem.W.FB.slot_bytes_getitem.lookup (PySem.W.getItem_bytes (by omega) h0 h1 ⟨.int ((z.getD i.toNat 0).toNat : Nat), H, I.tok _, ⟨_, rfl⟩, q⟩) hs
def rIxA (K : PySem.W.Frag) : R2 := fun x y H Q => rIx K x y H Q ∨ rIxB x y H Q
theorem ix_any : IxR X (rIxA X.K) := ix_seq.or ix_byt
theorem ol_idx : OpL X.K X.mg idxS (rIxA X.K) := fun g S H x y z v u Q r hx hy hz q => by
  have nx := Now.of r hx
  unfold idxS at hz
  split at hz
  · rename_i j
    cases hy
    revert hz nx
    generalize deref S x = x'
    intro nx hz
    split at hz
    · obtain ⟨a, vs, rfl, h1, h2⟩ := nx.of_lst
      obtain ⟨w, hw, rw'⟩ := h2.atI hz
      exact .inl (.inl ⟨a, vs, j, w, rfl, rfl, SqL.of h1, hw, q g H w (.refl g H) rw'⟩)
    · obtain ⟨a, vs, rfl, h1, h2⟩ := nx.of_frz r
      obtain ⟨w, hw, rw'⟩ := h2.atI hz
      exact .inl (.inl ⟨a, vs, j, w, rfl, rfl, h1, hw, q g H w (.refl g H) rw'⟩)
    · obtain ⟨a, vs, rfl, h1, h2⟩ := nx.of_tup r
      obtain ⟨w, hw, rw'⟩ := h2.atI hz
      exact .inl (.inr (.inl ⟨a, vs, j, w, rfl, rfl, h1, hw, q g H w (.refl g H) rw'⟩))
    · split at hz
      · rename_i s hc
        obtain ⟨e, hb⟩ := nx.byt
        subst e
        cases hs : s[j.toNat]? with
        | none => rw [hs] at hz; cases hz
        | some c =>
          rw [hs] at hz
          cases hz
          have hlt : c < 256 := hb c (List.mem_of_getElem? hs)
          refine .inr ⟨s.map UInt8.ofNat, j, rfl, rfl, by rw [List.length_map, ← line_eq]; exact hc.1, hc.2.1, by rw [List.length_map]; exact hc.2.2, ?_⟩
          have e : ((s.map UInt8.ofNat).getD j.toNat 0).toNat = c := by
            rw [List.getD_eq_getElem?_getD, List.getElem?_map, hs]
            simp [UInt8.toNat_ofNat', Nat.mod_eq_of_lt hlt]
          rw [e]
          exact q g H _ (.refl g H) .int
      · cases hz
    · split at hz
      · rename_i s hl
        have e := nx.str
        subst e
        rw [Option.map_eq_some_iff] at hz
        obtain ⟨c, hc, rfl⟩ := hz
        refine .inl (.inr (.inr ⟨mkS s, j, c, rfl, rfl, by rw [mkS_len, ← line_eq]; exact hl, ?_, q g H _ (.refl g H) (by exact .str)⟩))
        show L2.atI s.toArray.toList j = some c
        rw [List.toList_toArray]
        exact hc
      · cases hz
    · cases hz
  · cases hz
theorem re_idx {a b : Expr} {pos : Pos} {fa fb : SE} (ha : RE X xc a fa) (hb : RE X xc b fb) (hs : PlainIx b := by exact fun _ _ => rfl) : RE X xc (.Subscript a b pos) (op2 idxS fa fb) := fun W ok => pe_imp (pe_ix ix_any (ha W ok) (hb W ok) hs) (two ol_idx)

/-! ### built-ins of values -/
theorem cl_len : CallL X.K X.mg lenS (fun xs H Q => ∃ x n, xs = [x] ∧ LenV X.K x H n ∧ Q (.int (n : Nat)) H) := fun g S H xs z vs Q r h hz q => by
  unfold lenS at hz
  split at hz
  · rename_i x
    obtain ⟨v, r', rfl, rv, rr⟩ := h.inv
    rw [rr.inv0]
    have nx := Now.of r rv
    revert hz nx
    generalize deref S x = x'
    intro hz nx
    split at hz
    · cases hz
      obtain ⟨a, vs, rfl, h1, h2⟩ := nx.of_lst
      exact ⟨_, vs.length, rfl, .inl ⟨vs, SqL.of h1, rfl⟩, by rw [h2.len]; exact q g H _ (.refl g H) .int⟩
    · cases hz
      obtain ⟨a, vs, rfl, h1, h2⟩ := nx.of_frz r
      exact ⟨_, vs.length, rfl, .inl ⟨vs, h1, rfl⟩, by rw [h2.len]; exact q g H _ (.refl g H) .int⟩
    · cases hz
      obtain ⟨a, vs, rfl, h1, h2⟩ := nx.of_tup r
      exact ⟨_, vs.length, rfl, .inr ⟨vs, h1, rfl⟩, by rw [h2.len]; exact q g H _ (.refl g H) .int⟩
    · split at hz
      · rename_i s hl
        cases hz
        obtain ⟨e, _⟩ := nx.byt
        subst e
        exact ⟨_, s.length, rfl, ⟨by rw [mkB_len, ← line_eq]; exact hl, (mkB_len s).symm⟩, q g H _ (.refl g H) .int⟩
      · cases hz
    · split at hz
      · rename_i s hl
        cases hz
        have e := nx.str
        subst e
        exact ⟨_, s.length, rfl, ⟨by rw [mkS_len, ← line_eq]; exact hl, (mkS_len s).symm⟩, q g H _ (.refl g H) .int⟩
      · cases hz
    · cases hz
  · cases hz
theorem re_len {e : Expr} {p pos : Pos} {f : SE} (hg : Gl X "len") (hm : X.mg "len" = none) (h : RE X xc e f) (he : starEach [e] X.env = (false, eval e X.env) :: starEach [] X.env := by rfl) : RE X xc (.Call (.Name "len" p) [e] [] pos) (fnA lenS (consA f nilA)) :=
  re_callB call_len cl_len hg hm PySem.boot_len (ra_cons h ra_nil he) (by decide) (by decide) he
theorem cl_int : CallL X.K X.mg intS (fun xs H Q => (∃ i, xs = [.int i] ∧ Q (.int i) H) ∨ ∃ k, xs = [.bl k] ∧ Q (.int (if k then 1 else 0)) H) := fun g S H xs z vs Q r h hz q => by
  unfold intS at hz
  split at hz
  · cases hz
    obtain ⟨v, r', rfl, rv, rr⟩ := h.inv
    rw [rr.inv0]
    cases rv
    exact .inl ⟨_, rfl, q g H _ (.refl g H) .int⟩
  · cases hz
    obtain ⟨v, r', rfl, rv, rr⟩ := h.inv
    rw [rr.inv0]
    cases rv
    exact .inr ⟨_, rfl, q g H _ (.refl g H) .int⟩
  · cases hz
theorem re_toint {e : Expr} {p pos : Pos} {f : SE} (hg : Gl X "int") (hm : X.mg "int" = none) (h : RE X xc e f) (he : starEach [e] X.env = (false, eval e X.env) :: starEach [] X.env := by rfl) : RE X xc (.Call (.Name "int" p) [e] [] pos) (fnA intS (consA f nilA)) :=
  re_callTy call_int1 cl_int hg hm (by decide +kernel) (ra_cons h ra_nil he) (by decide) (by decide) he
theorem cl_min2 : CallL X.K X.mg min2S (fun xs H Q => ∃ i j, xs = [.int i, .int j] ∧ Q (.int (if j < i then j else i)) H) := fun g S H xs z vs Q r h hz q => by
  unfold min2S at hz
  split at hz
  · cases hz
    obtain ⟨v, r', rfl, rv, rr⟩ := h.inv
    obtain ⟨v', r'', rfl, rv', rr'⟩ := rr.inv
    rw [rr'.inv0]
    cases rv
    cases rv'
    exact ⟨_, _, rfl, q g H _ (.refl g H) .int⟩
  · cases hz
theorem cl_max2 : CallL X.K X.mg max2S (fun xs H Q => ∃ i j, xs = [.int i, .int j] ∧ Q (.int (if j > i then j else i)) H) := fun g S H xs z vs Q r h hz q => by
  unfold max2S at hz
  split at hz
  · cases hz
    obtain ⟨v, r', rfl, rv, rr⟩ := h.inv
    obtain ⟨v', r'', rfl, rv', rr'⟩ := rr.inv
    rw [rr'.inv0]
    cases rv
    cases rv'
    exact ⟨_, _, rfl, q g H _ (.refl g H) .int⟩
  · cases hz
theorem re_min2 {a b : Expr} {p pos : Pos} {fa fb : SE} (hg : Gl X "min") (hm : X.mg "min" = none) (ha : RE X xc a fa) (hb : RE X xc b fb) (hc : X.calm = true := by rfl) (he : starEach [a, b] X.env = (false, eval a X.env) :: starEach [b] X.env := by rfl) (he2 : starEach [b] X.env = (false, eval b X.env) :: starEach [] X.env := by rfl) (hpl : (backTo pos (starEach [b] X.env)).any (·.1) = false := by rfl) :
    RE X xc (.Call (.Name "min" p) [a, b] [] pos) (fnA min2S (consA fa (consA fb nilA))) := re_callB (call_min2 hc) cl_min2 hg hm (by decide +kernel) (ra_cons ha (ra_cons hb ra_nil he2) he) (by decide) (by decide) he hpl
theorem re_max2 {a b : Expr} {p pos : Pos} {fa fb : SE} (hg : Gl X "max") (hm : X.mg "max" = none) (ha : RE X xc a fa) (hb : RE X xc b fb) (hc : X.calm = true := by rfl) (he : starEach [a, b] X.env = (false, eval a X.env) :: starEach [b] X.env := by rfl) (he2 : starEach [b] X.env = (false, eval b X.env) :: starEach [] X.env := by rfl) (hpl : (backTo pos (starEach [b] X.env)).any (·.1) = false := by rfl) :
    RE X xc (.Call (.Name "max" p) [a, b] [] pos) (fnA max2S (consA fa (consA fb nilA))) := re_callB (call_max2 hc) cl_max2 hg hm (by decide +kernel) (ra_cons ha (ra_cons hb ra_nil he2) he) (by decide) (by decide) he hpl
/-! ### isinstance -/
/-- what an own class needs to be told by isinstance -/
structure IsC (X : Cx) (c : String) (C : Addr) : Prop where
  mgc : X.mg (nm c) = some (.ref C)
  cl : Cls X.K C
  ha : PySem.W.findIn X.K (.ref C) "__class__" = some (some (.builtin "object.__class__"))
  hn : PySem.W.specialIn X.K (.builtin "object.__class__") "__get__" = some (some (.builtin "getset_descriptor.__get__"))
  ht : PySem.W.takesIn X.K (.builtin "object.__class__") = some true
  hm : PySem.W.mroIn X.K C (.type "object") = some true
/-- a table's rows: a built-in type's answer, a class's -/
inductive ITbl (X : Cx) (A : Value → Bool → Prop) : List (String × Bool) → Prop
  | nil : ITbl X A []
  | ty {t : String} {b : Bool} {r : List (String × Bool)} : A (.type t) b → X.mg (nm t) = none → ITbl X A r → ITbl X A ((t, b) :: r)
  | cls {c : String} {C : Addr} {b : Bool} {r : List (String × Bool)} : IsC X c C → A (.ref C) b → ITbl X A r → ITbl X A ((c, b) :: r)
theorem ITbl.cls_ {A : Value → Bool → Prop} : ∀ {t : List (String × Bool)} {c : String} {C : Addr} {b : Bool}, ITbl X A t → X.mg (nm c) = some (.ref C) → t.lookup c = some b → IsC X c C ∧ A (.ref C) b
  | _, c, C, b, .nil, _, e => by simp at e
  | _, c, C, b, @ITbl.ty _ _ t b' r h1 h2 h3, hm, e => by
    by_cases hc : c = t
    · subst hc
      rw [h2] at hm; cases hm
    · rw [List.lookup_cons, beq_eq_false_iff_ne.mpr hc] at e
      exact h3.cls_ hm e
  | _, c, C, b, @ITbl.cls _ _ c' C' b' r h1 h2 h3, hm, e => by
    by_cases hc : c = c'
    · subst hc
      have := h1.mgc
      rw [hm] at this; cases this
      rw [List.lookup_cons_self] at e
      cases e
      exact ⟨h1, h2⟩
    · rw [List.lookup_cons, beq_eq_false_iff_ne.mpr hc] at e
      exact h3.cls_ hm e
theorem ITbl.ty_ {A : Value → Bool → Prop} : ∀ {tb : List (String × Bool)} {t : String} {b : Bool}, ITbl X A tb → (∀ C, X.mg (nm t) ≠ some (.ref C)) → tb.lookup t = some b → A (.type t) b
  | _, t, b, .nil, _, e => by simp at e
  | _, t, b, @ITbl.ty _ _ t' b' r h1 h2 h3, hn, e => by
    by_cases hc : t = t'
    · subst hc
      rw [List.lookup_cons_self] at e
      cases e; exact h1
    · rw [List.lookup_cons, beq_eq_false_iff_ne.mpr hc] at e
      exact h3.ty_ hn e
  | _, t, b, @ITbl.cls _ _ c' C' b' r h1 h2 h3, hn, e => by
    by_cases hc : t = c'
    · subst hc
      exact absurd h1.mgc (hn _)
    · rw [List.lookup_cons, beq_eq_false_iff_ne.mpr hc] at e
      exact h3.ty_ hn e
/-- no built-in type's name is a global of the module -/
def NoTy (X : Cx) : Prop := X.mg (nm "NoneType") = none ∧ X.mg (nm "bool") = none ∧ X.mg (nm "int") = none ∧ X.mg (nm "str") = none ∧ X.mg (nm "bytes") = none ∧ X.mg (nm "list") = none ∧ X.mg (nm "tuple") = none ∧ X.mg (nm "dict") = none
theorem tyX_frz {K : PySem.W.Frag} {H : Hp} {a : Addr} {vs : List V} (h : SqL K H a vs) : TyX K H (.ref a) (.type "list") := by
  rcases h with (h | ⟨o, h⟩) | ⟨o, its, n, h1, h2, _⟩
  · exact .base (.lst h)
  · exact .base (.frz h)
  · exact .kList h1 h2
theorem tyX_tup {K : PySem.W.Frag} {H : Hp} {a : Addr} {vs : List V} (h : SqT K H a vs) : TyX K H (.ref a) (.type "tuple") := by
  rcases h with (h | ⟨o, h⟩) | ⟨o, its, n, h1, h2, _⟩
  · exact .base (.tup h)
  · exact .fTuple h
  · exact .kTuple h1 h2
theorem tyX_of {S : Sto} {H : Hp} {g : Gh} (nt : NoTy X) (r : SRel X.K X.mg g S H) {x : D} {v : V} (h : Rep X.K X.mg g x v) {t : String} (e : tyD S x = some t) : TyX X.K H v (.type t) ∧ ∀ C, X.mg (nm t) ≠ some (.ref C) := by
  have n := Now.of r h
  obtain ⟨n1, n2, n3, n4, n5, n6, n7, n8⟩ := nt
  unfold tyD at e
  revert e n
  generalize deref S x = x'
  intro e n
  have no : ∀ {s : String}, X.mg (nm s) = none → ∀ C, X.mg (nm s) ≠ some (.ref C) := fun h C => by rw [h]; exact fun q => by cases q
  split at e <;> first | (cases e; done) | skip
  · cases e
    cases n with | rep _ h => cases h; exact ⟨.base .non, no n1⟩
  · cases e
    cases n with | rep _ h => cases h; exact ⟨.base (.bl _), no n2⟩
  · cases e
    cases n with | rep _ h => cases h; exact ⟨.base (.int _), no n3⟩
  · cases e
    cases n with | rep _ h => cases h; exact ⟨.base (.str _), no n4⟩
  · cases e
    cases n with | rep _ h => cases h; exact ⟨.byt _, no n5⟩
  · cases e
    obtain ⟨a, vs, rfl, h1, _⟩ := n.of_lst
    exact ⟨.base (.lst h1), no n6⟩
  · cases e
    obtain ⟨a, vs, rfl, h1, _⟩ := n.of_frz r
    exact ⟨tyX_frz h1, no n6⟩
  · cases e
    obtain ⟨a, vs, rfl, h1, _⟩ := n.of_tup r
    exact ⟨tyX_tup h1, no n7⟩
  · cases e
    cases n with | rep _ h2 => cases h2 with | edi h3 => exact ⟨.base (.dK (r.sub _ _ h3)), no n8⟩
theorem isi_go {W : WX} {A : Value → Bool → Prop} {tbl : List (String × Bool)} {f : SE} (T : ITbl X A tbl) (nt : NoTy X) {σ : L2.St} {H : Hp} {Q : Bool → Hp → Prop} (h : tTI X xc W (isiM tbl f) σ H Q) :
    tI X xc W f σ H fun x H1 => ∃ t b, A t b ∧ (TyX X.K H1 x t ∧ Q b H1) ∧ ∀ p o, H1 p = none → TyX X.K (upd H1 p o) x t ∧ Q b (upd H1 p o) := by
  obtain ⟨g, S0, en, S, rel, q⟩ := h
  refine ⟨g, S0, en, S, rel, q.bind.imp (fun _ t => t) fun g1 x e1 S1 σ1 H1 t1 l1 rel1 q1 v rv => ?_⟩
  cases hc : classOf S1 x with
  | none =>
    rw [hc] at q1
    obtain ⟨b, hb, q2⟩ := Post.opt q1
    rw [Option.bind_eq_some_iff] at hb
    obtain ⟨t, ht, hb⟩ := hb
    obtain ⟨h1, h2⟩ := tyX_of nt rel1.st rv ht
    refine ⟨_, b, T.ty_ h2 hb, ⟨h1, q2 g1 σ1 H1 t1 (.refl g1) rel1⟩, fun p o hp => ?_⟩
    have x := Ext.frz (o := o) rel1.st hp
    exact ⟨(tyX_of nt (x.rel _ rel1.st) (rv.mono x.le) ht).1, q2 _ σ1 _ t1 x.le (rel1.ext x)⟩
  | some p =>
    obtain ⟨c, fl⟩ := p
    rw [hc] at q1
    obtain ⟨b, hb, q2⟩ := Post.opt q1
    obtain ⟨a, C, dx, fv, rfl, h1, h2, _⟩ := classOf_ok rel1.st rv hc
    obtain ⟨k, k2⟩ := T.cls_ h1 hb
    refine ⟨_, b, k2, ⟨.base (.ins h2 k.cl k.ha k.hn k.ht k.hm), q2 g1 σ1 H1 t1 (.refl g1) rel1⟩, fun p o hp => ?_⟩
    have x := Ext.frz (o := o) rel1.st hp
    obtain ⟨a', C', dx', fv', e, h1', h2', _⟩ := classOf_ok (x.rel _ rel1.st) (rv.mono x.le) hc
    cases e
    rw [h1] at h1'; cases h1'
    exact ⟨.base (.ins h2' k.cl k.ha k.hn k.ht k.hm), q2 _ σ1 _ t1 x.le (rel1.ext x)⟩
/-- isinstance(e, c), one class -/
theorem re_isi {e c : Expr} {p pos : Pos} {f : SE} {cv : V} {u : Value} {tbl : List (String × Bool)} (hg : Gl X "isinstance") (hm : X.mg "isinstance" = none) (nt : NoTy X) (h : RE X xc e f) (hc : PE X c (tC cv)) (k : ClsV cv u) (T : ITbl X (fun t b => PySem.W.kitOne X.K t u = some b) tbl)
    (he : starEach [e, c] X.env = (false, eval e X.env) :: starEach [c] X.env := by rfl) (he2 : starEach [c] X.env = (false, eval c X.env) :: starEach [] X.env := by rfl) (hpl : (backTo pos (starEach [c] X.env)).any (·.1) = false := by rfl) :
    RE X xc (.Call (.Name "isinstance" p) [e, c] [] pos) (boolM (isiM tbl f)) := re_bool fun W ok => ⟨_, pe_callB call_isi hg hm (by decide +kernel) (pa_cons (h W ok) (pa_cons hc pa_nil he2) he) (by decide) (by decide) he hpl, fun σ H Q q => by
  obtain ⟨g, S0, en, S, rel, q⟩ := isi_go T nt q
  exact ⟨g, S0, en, S, rel, q.imp (fun _ t => t) fun g1 x e1 S1 σ1 H1 t1 l1 rel1 q1 v rv => by
    obtain ⟨t, b, h2, ⟨h1, h3⟩, _⟩ := q1 v rv
    exact ⟨v, cv, t, u, b, rfl, k, h1, h2, h3⟩⟩⟩
/-- isinstance(e, (c1, c2)), a tuple of classes -/
theorem re_isiT {e : Expr} {cs : List Expr} {p pos pos' : Pos} {k' : Nat} {f : SE} {cvs : List V} {us : List Value} {tbl : List (String × Bool)} (hg : Gl X "isinstance") (hm : X.mg "isinstance" = none) (nt : NoTy X) (h : RE X xc e f) (hc : PA X cs (fun _ H Q => Q cvs H)) (k : Paired ClsV cvs us) (hl : cvs.length ≤ sizeLine)
    (T : ITbl X (fun t b => PySem.W.kitAny X.K t us = some b) tbl)
    (he : starEach [e, .Tuple cs k' pos'] X.env = (false, eval e X.env) :: starEach [.Tuple cs k' pos'] X.env := by rfl) (he2 : starEach [.Tuple cs k' pos'] X.env = (false, eval (.Tuple cs k' pos') X.env) :: starEach [] X.env := by rfl) (hpl : (backTo pos (starEach [.Tuple cs k' pos'] X.env)).any (·.1) = false := by rfl) :
    RE X xc (.Call (.Name "isinstance" p) [e, .Tuple cs k' pos'] [] pos) (boolM (isiM tbl f)) := re_bool fun W ok => ⟨_, pe_callB call_isiT hg hm (by decide +kernel) (pa_cons (h W ok) (pa_cons (pe_tup hc) pa_nil he2) he) (by decide) (by decide) he hpl, fun σ H Q q => by
  obtain ⟨g, S0, en, S, rel, q⟩ := isi_go T nt q
  exact ⟨g, S0, en, S, rel, q.imp (fun _ t => t) fun g1 x e1 S1 σ1 H1 t1 l1 rel1 q1 v rv => by
    obtain ⟨t, b, h2, _, h3⟩ := q1 v rv
    exact ⟨hl, fun p hp => ⟨v, p, cvs, t, us, b, rfl, upd_same, k, (h3 p _ hp).1, h2, (h3 p _ hp).2⟩⟩⟩⟩
end
end Mir
end

/-! MirLst -/
section
set_option Elab.async false
set_option linter.all false
set_option maxRecDepth 100000
/-! MirLst: lists of the store turned; slices. -/
namespace Mir
open PySem L2

section
variable {X : Cx} {xc : Xc}
/-- a list's method that turns it, by values -/
structure LmL (K : PySem.W.Frag) (mg : Str → Option Value) (f : Sto → List D → List D → Option (List D × List D)) (r : V → List V → Hp → VK → Prop) : Prop where
  go : ∀ (g : Gh) (S : Sto) (H : Hp) (xs ys zs ws : List D) (a : Addr) (vs us : List V) (Q : VK), SRel K mg g S H → H a = some (.lst vs) → Reps K mg g xs vs → Reps K mg g ys us → f S xs ys = some (zs, ws) → (∀ vs', Reps K mg g zs vs' → Q .non (upd H a (.lst vs'))) → r (.ref a) us H Q
  lim : ∀ (S : Sto) (xs ys zs ws : List D) (n : Nat), f S xs ys = some (zs, ws) → limL n xs = true → limL n ws = true → limL n zs = true
theorem lm_app {K : PySem.W.Frag} {mg : Str → Option Value} : LmL K mg appL rAppend := by
  refine ⟨fun g S H xs ys zs ws a vs us Q r ha hx hy hf q => ?_, fun S xs ys zs ws n hf h1 h2 => ?_⟩
  · unfold appL at hf
    split at hf
    · split at hf
      · rename_i hl
        cases hf
        obtain ⟨v, r', rfl, rv, rr⟩ := hy.inv
        rw [rr.inv0]
        exact ⟨a, vs, v, rfl, rfl, ha, by rw [hx.len, ← line_eq]; exact hl, q _ (hx.append (.cons rv .nil))⟩
      · cases hf
    · cases hf
  · unfold appL at hf
    split at hf
    · split at hf
      · cases hf
        exact limL_app h1 h2
      · cases hf
    · cases hf
theorem lm_ext {K : PySem.W.Frag} {mg : Str → Option Value} : LmL K mg extL rExtend := by
  refine ⟨fun g S H xs ys zs ws a vs us Q r ha hx hy hf q => ?_, fun S xs ys zs ws n hf h1 h2 => ?_⟩
  · unfold extL at hf
    split at hf
    · rename_i y
      obtain ⟨v, r', rfl, rv, rr⟩ := hy.inv
      rw [rr.inv0]
      have n := Now.of r rv
      revert hf n
      generalize deref S y = y'
      intro hf n
      split at hf
      · split at hf
        · rename_i hl
          cases hf
          obtain ⟨b, ws', rfl, h1, h2⟩ := n.of_lst
          exact ⟨a, b, vs, ws', rfl, rfl, ha, h1, by rw [hx.len, h2.len, ← line_eq]; exact hl, q _ (hx.append h2)⟩
        · cases hf
      · cases hf
    · cases hf
  · unfold extL at hf
    split at hf
    · split at hf
      · split at hf
        · cases hf
          exact limL_app h1 h2
        · cases hf
      · cases hf
    · cases hf
theorem Reps.rev {K : PySem.W.Frag} {mg : Str → Option Value} {g : Gh} {xs : List D} {vs : List V} (h : Reps K mg g xs vs) : Reps K mg g xs.reverse vs.reverse := by
  refine ⟨by simp [h.len], fun i d v e1 e2 => ?_⟩
  have hi : i < xs.length := by simpa using (List.getElem?_eq_some_iff.mp e1).1
  rw [List.getElem?_reverse hi] at e1
  rw [List.getElem?_reverse (by rw [h.len]; exact hi), h.len] at e2
  exact h.at_ _ d v e1 e2
theorem lm_clr {K : PySem.W.Frag} {mg : Str → Option Value} : LmL K mg clrL rClear := by
  refine ⟨fun g S H xs ys zs ws a vs us Q r ha hx hy hf q => ?_, fun S xs ys zs ws n hf h1 h2 => ?_⟩
  · unfold clrL at hf
    split at hf
    · cases hf
      rw [hy.inv0]
      exact ⟨a, vs, rfl, rfl, ha, q _ .nil⟩
    · cases hf
  · unfold clrL at hf
    split at hf
    · cases hf; rfl
    · cases hf
theorem lm_rev {K : PySem.W.Frag} {mg : Str → Option Value} : LmL K mg revL rReverse := by
  refine ⟨fun g S H xs ys zs ws a vs us Q r ha hx hy hf q => ?_, fun S xs ys zs ws n hf h1 h2 => ?_⟩
  · unfold revL at hf
    split at hf
    · cases hf
      rw [hy.inv0]
      exact ⟨a, vs, rfl, rfl, ha, q _ hx.rev⟩
    · cases hf
  · unfold revL at hf
    split at hf
    · cases hf
      rw [limL_mem] at h1 ⊢
      exact fun d hd => h1 d (List.mem_reverse.mp hd)
    · cases hf
/-- the same reading, whatever the number of arguments -/
theorem lmet_go {W : WX} {f : Sto → List D → List D → Option (List D × List D)} {r : V → List V → Hp → VK → Prop} {fo : SE} {fs : SA} (L : LmL X.K X.mg f r) {σ : L2.St} {H : Hp} {Q : VK} (h : tI X xc W (lmetM f fo fs) σ H Q) :
    tI X xc W fo σ H fun x H1 => tyV X.K "list" x H1 ∧ tAI X xc W fs σ H1 fun us H2 => r x us H2 Q := by
  obtain ⟨g, S0, e, S, rel, q⟩ := h
  refine ⟨g, S0, e, S, rel, q.bind.imp (fun _ t => t) fun g1 x e1 S1 σ1 H1 t1 l1 rel1 q1 v rv => ?_⟩
  subst t1
  cases x with
  | ref i =>
    cases rv with
    | @ref _ a hm =>
      dsimp only at q1
      cases hS : S1[i]? with
      | none => rw [hS] at q1; exact q1.elim
      | some ob =>
        rw [hS] at q1
        cases ob with
        | lst w xs0 =>
          dsimp only at q1
          obtain ⟨hF, vs, h1, h2⟩ := rel1.st.ob _ _ _ hS hm
          refine ⟨.inl ⟨rfl, vs, SqL.of h1⟩, g1, S0, e1, S1, rel1, q1.bind.imp (fun _ t => t) fun g2 ys e2 S2 σ2 H2 t2 l2 rel2 q2 us rus => ?_⟩
          subst t2
          cases hS2 : S2[i]? with
          | none => rw [hS2] at q2; exact q2.elim
          | some ob2 =>
            rw [hS2] at q2
            cases ob2 with
            | lst w2 xs =>
              dsimp only at q2
              have hm2 := l2.m _ _ hm
              obtain ⟨hF2, vs2, k1, k2⟩ := rel2.st.ob _ _ _ hS2 hm2
              cases hz : f S2 xs ys with
              | none => rw [hz] at q2; exact q2.elim
              | some p =>
                obtain ⟨zs, ws⟩ := p
                rw [hz] at q2
                dsimp only at q2
                split at q2
                · rename_i hp
                  refine L.go g2 S2 H2 xs ys zs ws a vs2 us Q rel2.st k1 k2 rus hz fun vs' rv' => ?_
                  refine q2 g2 σ2 _ rfl (.refl g2) (rel2.write hS2 rfl hm2 ⟨hF2, vs', upd_same, rv'⟩ ?_) _ .non
                  rcases Bool.or_eq_true_iff.mp hp with hp | hp
                  · exact .inl (of_decide_eq_true hp)
                  · exact .inr fun n hn => L.lim S2 xs ys zs ws n hz hn (limL_mono' (Nat.zero_le n) _ hp)
                · exact q2.elim
            | dead => exact q2.elim
            | ins c fs => exact q2.elim
        | dead => exact q1.elim
        | ins c fs => exact q1.elim
  | _ => exact q1.elim
theorem re_lmet {name : Str} {id : String} {o e : Expr} {es : List Expr} {apos cpos : Pos} {f : Sto → List D → List D → Option (List D × List D)} {r : V → List V → Hp → VK → Prop} {fo : SE} {fs : SA} (slot : Slot "list" name id) (hty : typeOf (.builtin id) = pure (.type "method_descriptor")) (hm : MtR X id r) (L : LmL X.K X.mg f r)
    (ho : RE X xc o fo) (ha : RA X xc (e :: es) fs) (hbase : attributeBase o name X.env (eval o X.env) = eval o X.env := by rfl)
    (hfew : ((backTo cpos (starEach (e :: es) X.env)).all (fun x => !x.1) && (backToKw cpos (keywordEach [] X.env)).all (fun x => x.1.isSome)
      && decide ((e :: es).length + ([] : List Keyword).length + (if ([] : List Keyword).isEmpty then 0 else 1) < 30)) = true := by rfl)
    (hline : (apos.endLine == cpos.line) = true := by rfl) (hs : starEach (e :: es) X.env = (false, eval e X.env) :: starEach es X.env := by rfl) (hplain : (backTo cpos (starEach es X.env)).any (·.1) = false := by rfl) :
    RE X xc (.Call (.Attribute o name apos) (e :: es) [] cpos) (lmetM f fo fs) := fun W ok => pe_imp (pe_bm PySem.F.plainAttrs_list slot hty hm (ho W ok) (ha W ok) hbase hfew hline hs hplain) fun σ H Q q => lmet_go L q
theorem re_lmet0 {name : Str} {id : String} {o : Expr} {apos cpos : Pos} {f : Sto → List D → List D → Option (List D × List D)} {r : V → List V → Hp → VK → Prop} {fo : SE} (slot : Slot "list" name id) (hty : typeOf (.builtin id) = pure (.type "method_descriptor")) (hm : MtR X id r) (L : LmL X.K X.mg f r)
    (ho : RE X xc o fo) (hbase : attributeBase o name X.env (eval o X.env) = eval o X.env := by rfl) (hline : (apos.endLine == cpos.line) = true := by rfl) :
    RE X xc (.Call (.Attribute o name apos) [] [] cpos) (lmetM f fo nilA) := fun W ok => pe_imp (pe_bm0 PySem.F.plainAttrs_list slot hty hm (ho W ok) hbase hline) fun σ H Q q => by
  obtain ⟨g, S0, e, S, rel, q⟩ := lmet_go L q
  exact ⟨g, S0, e, S, rel, q.imp (fun _ t => t) fun g1 x e1 S1 σ1 H1 t1 l1 rel1 q1 v rv => by
    obtain ⟨ty, g2, S0', e2, S2, rel2, q2⟩ := q1 v rv
    exact ⟨ty, q2 g2 σ H1 rfl (.refl g2) rel2 [] .nil⟩⟩
/-! ### stores to items -/
theorem rg_sub {o i : Expr} {pos : Pos} {fo fi : SE} (ho : RE X xc o fo) (hi : RE X xc i fi) (ha : ∀ v, assign (.Subscript o i pos) X.env v = (do
      let ov ← holding [v] (eval o X.env)
      let iv ← holding [v, ov] (eval i X.env)
      standAt pos
      holding [v, ov, iv] (setItem ov iv v)
      release [v, ov, iv] []) := by intro _; rfl) : RG X xc (.Subscript o i pos) (gsM fo fi) := fun W ok => pg_imp (pg_sub (ho W ok) (hi W ok) set_list ha) fun v σ H Q ⟨g, S0, e, S, d, rel, rv, q⟩ =>
  ⟨g, S0, e, S, rel, q.bind.imp (fun _ t => trivial) fun g1 x e1 S1 σ1 H1 t1 l1 rel1 q1 u ru => by
    subst t1
    exact ⟨g1, S0, e1, S1, rel1, q1.bind.imp (fun _ t => trivial) fun g2 y e2 S2 σ2 H2 t2 l2 rel2 q2 w rw' => by
      subst t2
      cases x with
      | ref k =>
        cases y with
        | int j =>
          cases rw'
          cases ru with
          | @ref _ a hm =>
            dsimp only at q2
            cases hS : S2[k]? with
            | none => rw [hS] at q2; exact q2.elim
            | some ob =>
              rw [hS] at q2
              cases ob with
              | lst w xs =>
                dsimp only at q2
                have hm2 := l2.m _ _ hm
                obtain ⟨hF, vs, h1, h2⟩ := rel2.st.ob _ _ _ hS hm2
                cases hp : ixD xs.length j with
                | none => rw [hp] at q2; exact q2.elim
                | some p =>
                  rw [hp] at q2
                  dsimp only at q2
                  split at q2
                  · rename_i hk
                    have rd := (rv.mono l1).mono l2
                    refine ⟨a, vs, j, p, rfl, rfl, h1, by rw [h2.len, ← ixD_eq]; exact hp, ?_⟩
                    refine q2 g2 σ2 _ trivial (.refl g2) (rel2.write hS rfl hm2 ⟨hF, _, upd_same, h2.set rd p⟩ ?_)
                    rcases mayPut_ok hk with hk | hk
                    · exact .inl hk
                    · exact .inr fun n hn => limL_set (hk n) hn
                  · exact q2.elim
              | dead => exact q2.elim
              | ins c fs => exact q2.elim
        | _ => exact q2.elim
      | _ => exact q2.elim⟩⟩

/-! ### slices -/
def RO (X : Cx) (xc : Xc) (e : Option Expr) (f : Option SE) : Prop := match e, f with
  | none, none => True
  | some e, some f => RE X xc e f
  | _, _ => False
theorem cutI_eq (n d : Nat) (o : Option Int) : cutI n d o = HT.sIx n d o := by
  cases o <;> rfl
def tPI (X : Cx) (xc : Xc) (W : WX) (f : Option SE) : TO := fun σ H Q => ∃ g S0 e S, Rel X.K X.mg xc g S0 e S σ H ∧ Post X.K X.mg xc W S0 (· = σ) g (partM f S0.length e S) (fun _ o _ _ _ H' => Q o H')
theorem po_of {W : WX} {e : Option Expr} {f : Option SE} (ok : Ok X W) (h : RO X xc e f) : PO X e (tPI X xc W f) := by
  cases e with
  | none =>
    cases f with
    | none => exact ⟨fun pins s σ H Q I ⟨g, S0, en, S, rel, q⟩ => po_none.run pins s σ H Q I (q g σ H rfl (.refl g) rel)⟩
    | some f => exact h.elim
  | some e =>
    cases f with
    | none => exact h.elim
    | some f => exact ⟨fun pins s σ H Q I ⟨g, S0, en, S, rel, q⟩ => (po_some (h W ok)).run pins s σ H Q I ⟨g, S0, en, S, rel, (show Post X.K X.mg xc W S0 (· = σ) g ((f S0.length en S).bind _) _ from q).bind.imp (fun _ t => t) fun g1 x e1 S1 σ1 H1 t1 l1 rel1 q1 v rv => by
        cases x with
        | int i =>
          cases rv
          exact ⟨i, rfl, q1 g1 σ1 H1 t1 (.refl g1) rel1⟩
        | _ => exact q1.elim⟩⟩
theorem cutV_eq {K : PySem.W.Frag} {mg : Str → Option Value} {g : Gh} {xs : List D} {vs : List V} (h : Reps K mg g xs vs) (l u : Option Int) : Reps K mg g (cutL xs l u) (cutV vs l u) := by
  unfold cutL cutV
  rw [h.len, cutI_eq, cutI_eq]
  exact (h.drop _).take _
theorem cutS_eq (s : List Nat) (l u : Option Int) : cutS (mkS s) l u = mkS (cutL s l u) := by
  unfold cutS cutL
  rw [mkS_len, cutI_eq, cutI_eq]
  show Str.mk ((s.toArray.toList.drop _).take _).toArray = Str.mk _
  rw [List.toList_toArray]
theorem clip_eq (n : Nat) (i : Int) : clipAt n i = cutI n 0 (some i) := by
  unfold clipAt
  show _ = if i < 0 then (i + n).toNat else min i.toNat n
  split <;> omega
theorem cutB_eq (s : List Nat) (l u : Option Int) : PySem.W.KBy.picked (mkB s) l u = mkB (cutL s l u) := by
  have e0 : ∀ o : Option Int, o.elim 0 (clipAt (mkB s).size) = cutI s.length 0 o := fun o => by
    rw [mkB_len]
    cases o with
    | none => rfl
    | some i => exact clip_eq _ _
  have e1 : ∀ o : Option Int, o.elim (mkB s).size (clipAt (mkB s).size) = cutI s.length s.length o := fun o => by
    rw [mkB_len]
    cases o with
    | none => rfl
    | some i => exact clip_eq _ _
  rw [PySem.W.KBc.picked_eq, e0, e1]
  unfold mkB cutL
  rw [List.toList_toArray, ← List.map_drop, ← List.map_take]
def rSlV (K : PySem.W.Frag) : V → Option Int → Option Int → Hp → VK → Prop := fun x lo hi H Q => rSlL K x lo hi H Q ∨ (rSlS x lo hi H Q ∨ rSlB x lo hi H Q)
theorem sl_val : SlR X (rSlV X.K) := sl_list.or (sl_str.or sl_byt)
theorem sl_ok {g : Gh} {S : Sto} {H : Hp} {x z : D} {v : V} {l u : Option Int} {Q : VK} (r : SRel X.K X.mg g S H) (hx : Rep X.K X.mg g x v) (hz : slcS S x l u = some z) (q : ∀ g' H' w, Ext X.K X.mg g H g' H' → Rep X.K X.mg g' z w → Q w H') : rSlV X.K v l u H Q := by
  have nx := Now.of r hx
  unfold slcS at hz
  revert hz nx
  generalize deref S x = x'
  intro hz nx
  split at hz
  · cases hz
    obtain ⟨a, vs, rfl, h1, h2⟩ := nx.of_lst
    exact .inl ⟨a, vs, rfl, SqL.of h1, fun p hp => newLst r (cutV_eq h2 l u) q hp⟩
  · cases hz
    obtain ⟨a, vs, rfl, h1, h2⟩ := nx.of_frz r
    exact .inl ⟨a, vs, rfl, h1, fun p hp => newLst r (cutV_eq h2 l u) q hp⟩
  · split at hz
    · rename_i s hl
      cases hz
      have e := nx.str
      subst e
      exact .inr (.inl ⟨mkS s, rfl, by rw [mkS_len, ← line_eq]; exact hl, by rw [cutS_eq]; exact q g H _ (.refl g H) .str⟩)
    · cases hz
  · split at hz
    · rename_i s hl
      cases hz
      obtain ⟨e, hb⟩ := nx.byt
      subst e
      refine .inr (.inr ⟨mkB s, rfl, by rw [mkB_len]; exact hl, ?_⟩)
      rw [cutB_eq]
      exact q g H _ (.refl g H) (.byt fun x hx => hb x (List.mem_of_mem_drop (List.mem_of_mem_take hx)))
    · cases hz
  · cases hz
theorem re_slice {e : Expr} {lo hi : Option Expr} {p2 pos : Pos} {f : SE} {fl fu : Option SE} (h : RE X xc e f) (hl : RO X xc lo fl) (hu : RO X xc hi fu) : RE X xc (.Subscript e (.Slice lo hi none p2) pos) (slcM f fl fu) := fun W ok =>
  pe_imp (pe_slice sl_val (h W ok) (po_of ok hl) (po_of ok hu)) fun σ H Q ⟨g, S0, en, S, rel, q⟩ => ⟨g, S0, en, S, rel, q.bind.imp (fun _ t => t) fun g1 x e1 S1 σ1 H1 t1 l1 rel1 q1 v rv => by
    subst t1
    exact ⟨g1, S0, e1, S1, rel1, q1.bind.imp (fun _ t => t) fun g2 o e2 S2 σ2 H2 t2 l2 rel2 q2 => by
      subst t2
      exact ⟨g2, S0, e2, S2, rel2, q2.bind.imp (fun _ t => t) fun g3 o' e3 S3 σ3 H3 t3 l3 rel3 q3 => by
        subst t3
        obtain ⟨z, hz, q4⟩ := q3.opt
        exact sl_ok rel3.st ((rv.mono l2).mono l3) hz fun g4 H4 w x4 rw4 => q4 g4 _ H4 rfl x4.le (rel3.ext x4) w rw4⟩⟩⟩
end
end Mir
end

/-! MirComp -/
section
set_option Elab.async false
set_option linter.all false
set_option maxRecDepth 100000
/-! MirComp: list comprehensions. -/
namespace Mir
open PySem L2

def W0 : WX := fun _ _ _ _ => False
section
variable {X : Cx} {xc : Xc}
theorem ok_blk {W : WX} (ok : Ok X W) (s : Shared) (H : Hp) (scope : Scope) (cenv : PySem.Env) (fp : List Addr) : Ok (X.blk s H scope cenv fp) W0 := ⟨takes0, PassesOwn.never, ok.hu⟩
/-- the target of a comprehension: names alone -/
def RC (X : Cx) (tg : Expr) (vs : List Nat) (f : CT) (gT : TG) : Prop := PG X tg gT ∧ ∀ (g : Gh) (S0 : Sto) (e : Env) (S : Sto) (σ : L2.St) (H : Hp) (d : D) (v : V) (e' : Env) (Q : L2.St → Hp → Prop), Rel X.K X.mg none g S0 e S σ H → Rep X.K X.mg g d v → f d e = some e' →
  (∀ σ2, Rel X.K X.mg none g S0 e' S σ2 H → (∀ i, i ∉ vs → σ2[i]? = σ[i]?) → σ2.length = σ.length → Q σ2 H) → gT v σ H Q
def RCs (X : Cx) (ts : List Expr) (vs : List Nat) (f : List D → Env → Option Env) (gT : TGs) : Prop := PGs X ts gT ∧ ∀ (g : Gh) (S0 : Sto) (e : Env) (S : Sto) (σ : L2.St) (H : Hp) (ds : List D) (us : List V) (e' : Env) (Q : L2.St → Hp → Prop), Rel X.K X.mg none g S0 e S σ H → Reps X.K X.mg g ds us → f ds e = some e' →
  (∀ σ2, Rel X.K X.mg none g S0 e' S σ2 H → (∀ i, i ∉ vs → σ2[i]? = σ[i]?) → σ2.length = σ.length → Q σ2 H) → gT us σ H Q
theorem rc_name {i : Nat} {x : Str} {pos : Pos} {vs : List Nat} (hN : X.N.Nodup) (hv : i ∈ vs) (hi : X.N[i]? = some x := by rfl) (hx : Loc X.env.scope x := by first | exact Or.inl rfl | exact Or.inr rfl) (hf : X.fn x = true ∨ X.env.scope.names.lookup x = some .local := by first | exact .inl rfl | exact .inr rfl | assumption) : RC X (.Name x pos) vs (ctN i) (gName i) := by
  refine ⟨pg_name hN hi hx hf, fun g S0 e S σ H d v e' Q rel rv he q => ?_⟩
  unfold ctN at he
  split at he
  · rename_i hl
    cases he
    exact q _ (rel.slot hl rv (fun _ q => by cases q)) (fun j hj => List.getElem?_set_ne (fun h => hj (by rw [← h]; exact hv))) (by simp)
  · cases he
theorem rcs_nil {vs : List Nat} : RCs X [] vs ctsNil gNil := by
  refine ⟨pgs_nil, fun g S0 e S σ H ds us e' Q rel rv he q => ?_⟩
  unfold ctsNil at he
  cases ds with
  | nil => cases he; exact ⟨rv.inv0, q σ rel (fun _ _ => rfl) rfl⟩
  | cons d ds => cases he
theorem rcs_cons {t : Expr} {ts : List Expr} {vs : List Nat} {f : CT} {fs : List D → Env → Option Env} {gT : TG} {gTs : TGs} (h : RC X t vs f gT) (hr : RCs X ts vs fs gTs) (hs : (assignEach (t :: ts) X.env).map (·.2) = assign t X.env :: (assignEach ts X.env).map (·.2) := by rfl) : RCs X (t :: ts) vs (ctsCons f fs) (gCons gT gTs) := by
  refine ⟨pgs_cons h.1 hr.1 hs, fun g S0 e S σ H ds us e' Q rel rv he q => ?_⟩
  unfold ctsCons at he
  cases ds with
  | nil => cases he
  | cons d ds =>
    obtain ⟨v, r', rfl, r1, r2⟩ := rv.inv
    dsimp only at he
    rw [Option.bind_eq_some_iff] at he
    obtain ⟨e1, h1, h2⟩ := he
    exact ⟨v, r', rfl, h.2 g S0 e S σ H d v e1 _ rel r1 h1 fun σ2 rel2 k2 l2 => hr.2 g S0 e1 S σ2 H ds r' e' Q rel2 r2 h2 fun σ3 rel3 k3 l3 => q σ3 rel3 (fun i hi => (k3 i hi).trans (k2 i hi)) (l3.trans l2)⟩
theorem rc_tup {es : List Expr} {k n : Nat} {pos : Pos} {vs : List Nat} {fs : List D → Env → Option Env} {gTs : TGs} (h : RCs X es vs fs gTs) (hc : X.calm = true := by rfl) (hn : (assignEach es X.env).length = n := by rfl) (hst : (assignEach es X.env).findIdx? (·.1) = none := by rfl) : RC X (.Tuple es k pos) vs (ctT n fs) (gTup X.K n gTs) := by
  refine ⟨pg_tup hc h.1 hn hst, fun g S0 e S σ H d v e' Q rel rv he q => ?_⟩
  unfold ctT at he
  cases d with
  | tup xs =>
    obtain ⟨a, us, rfl, h1, h2⟩ := Reps.of_tup rv
    dsimp only at he
    split at he
    · rename_i hl
      exact ⟨a, us, rfl, sub_SqT rel.st h1, h2.len.trans hl, h.2 g S0 e S σ H xs us e' Q rel h2 he q⟩
    · cases he
  | _ => cases he
/-- a clause's tests -/
def RTs (X : Cx) (ifs : List Expr) (f : ST) : Prop := ∀ W, Ok X W → PTs X ifs (tTI X none W f)
theorem rts_nil : RTs X [] yesT := fun W ok => ⟨fun pins s σ H Q I ⟨g, S0, e, S, rel, q⟩ => pts_nil.run pins s σ H Q I (q g σ H rfl (.refl g) rel)⟩
theorem rts_one {c : Expr} {t : ST} (h : RT X none c t) : RTs X [c] t := fun W ok => pts_one (h W ok)

theorem wipeE_len (e : Env) : ∀ vs : List Nat, (wipeE e vs).length = e.length
  | [] => rfl
  | v :: vs => by unfold wipeE; rw [List.length_set, wipeE_len e vs]
theorem wipeE_some {e : Env} {i : Nat} {d : D} : ∀ {vs : List Nat}, (wipeE e vs)[i]? = some (some d) → e[i]? = some (some d) ∧ i ∉ vs
  | [], h => ⟨h, by simp⟩
  | v :: vs, h => by
    unfold wipeE at h
    by_cases hi : v = i
    · subst hi
      by_cases hv : v < (wipeE e vs).length
      · rw [List.getElem?_set_self hv] at h; cases h
      · rw [List.getElem?_eq_none (by simpa using hv)] at h; cases h
    · rw [List.getElem?_set_ne hi] at h
      obtain ⟨h1, h2⟩ := wipeE_some h
      exact ⟨h1, by simp only [List.mem_cons, not_or]; exact ⟨fun q => hi q.symm, h2⟩⟩
theorem Rel.wipe {K : PySem.W.Frag} {mg : Str → Option Value} {g : Gh} {S0 : Sto} {e : Env} {S : Sto} {σ : L2.St} {H : Hp} (r : Rel K mg none g S0 e S σ H) (vs : List Nat) : Rel K mg none g S0 (wipeE e vs) S (L2.wipe σ vs) H := by
  refine ⟨r.st, r.le0, r.frm, by rw [wipeE_len, wipe_length]; exact r.el, fun i d h => ?_, fun _ _ _ _ _ _ q => by cases q⟩
  obtain ⟨h1, h2⟩ := wipeE_some h
  obtain ⟨v, hv, rv⟩ := r.sl i d h1
  exact ⟨v, by rw [wipe_out h2]; exact hv, rv⟩
theorem wipe_same {σ σ2 : L2.St} {vs : List Nat} (k : ∀ i, i ∉ vs → σ2[i]? = (L2.wipe σ vs)[i]?) (l : σ2.length = (L2.wipe σ vs).length) : L2.wipe σ2 vs = L2.wipe σ vs := by
  have inn : ∀ (τ : L2.St) (ws : List Nat) (i : Nat), i ∈ ws → i < τ.length → (L2.wipe τ ws)[i]? = some none := by
    intro τ ws
    induction ws with
    | nil => intro i h; simp at h
    | cons w ws ih =>
      intro i hi hlt
      unfold L2.wipe
      by_cases e : w = i
      · subst e
        rw [List.getElem?_set_self (by rw [wipe_length]; exact hlt)]
      · rw [List.getElem?_set_ne e]
        rcases List.mem_cons.mp hi with h | h
        · exact absurd h.symm e
        · exact ih i h hlt
  refine List.ext_getElem? fun i => ?_
  rw [wipe_length] at l
  by_cases hi : i ∈ vs
  · by_cases hlt : i < σ.length
    · rw [inn _ _ _ hi hlt, inn _ _ _ hi (by rw [l]; exact hlt)]
    · rw [List.getElem?_eq_none (by rw [wipe_length, l]; omega), List.getElem?_eq_none (by rw [wipe_length]; omega)]
  · rw [wipe_out hi, k i hi]
theorem restE_len (e0 e : Env) : ∀ vs : List Nat, (restE vs e0 e).length = e.length
  | [] => rfl
  | v :: vs => by unfold restE; rw [List.length_set, restE_len e0 e vs]
theorem restE_some {e0 e : Env} {i : Nat} {d : D} : ∀ {vs : List Nat}, (restE vs e0 e)[i]? = some (some d) → (i ∈ vs ∧ e0[i]? = some (some d)) ∨ (i ∉ vs ∧ e[i]? = some (some d))
  | [], h => .inr ⟨by simp, h⟩
  | v :: vs, h => by
    unfold restE at h
    by_cases hi : v = i
    · subst hi
      by_cases hv : v < (restE vs e0 e).length
      · rw [List.getElem?_set_self hv] at h
        refine .inl ⟨List.mem_cons_self, ?_⟩
        cases q : e0[v]? with
        | none => rw [q] at h; simp at h
        | some o => rw [q] at h; simpa using h
      · rw [List.getElem?_eq_none (by simpa using hv)] at h; cases h
    · rw [List.getElem?_set_ne hi] at h
      rcases restE_some h with ⟨h1, h2⟩ | ⟨h1, h2⟩
      · exact .inl ⟨List.mem_cons_of_mem _ h1, h2⟩
      · exact .inr ⟨by simp only [List.mem_cons, not_or]; exact ⟨fun q => hi q.symm, h1⟩, h2⟩
def tCR (X : Cx) (xc : Xc) (W : WX) (f : Nat → Env → Sto → R Nat) : TE := fun σ H Q => ∃ g S0 e S, Rel X.K X.mg none g S0 e S σ H ∧ Post X.K X.mg none W S0 (· = σ) g (f S0.length e S) (fun g' id _ _ _ H' => ∀ a, g'.m[id]? = some a → Q (.ref a) H')
theorem lc_read {W : WX} {w : Bool} {fi : SA} {vs : List Nat} {fg : CT} {gT : TG} {ft : ST} {fx : SE}
    (hg : ∀ (g : Gh) (S0 : Sto) (e : Env) (S : Sto) (σ : L2.St) (H : Hp) (d : D) (v : V) (e' : Env) (Q : L2.St → Hp → Prop), Rel X.K X.mg none g S0 e S σ H → Rep X.K X.mg g d v → fg d e = some e' →
      (∀ σ2, Rel X.K X.mg none g S0 e' S σ2 H → (∀ i, i ∉ vs → σ2[i]? = σ[i]?) → σ2.length = σ.length → Q σ2 H) → gT v σ H Q) {σ : L2.St} {H : Hp} {Q : VK} (h : tCR X none W (compR w fi vs fg ft fx) σ H Q) : tLc (tII X none W fi) gT (tTI X none W0 ft) (tI X none W0 fx) vs σ H Q := by
  obtain ⟨g, S0, e, S, rel, q⟩ := h
  refine ⟨g, S0, e, S, rel, q.bind.imp (fun _ t => t) fun g1 xs e1 S1 σ1 H1 t1 l1 rel1 q1 J wk a ha => ?_⟩
  subst t1
  -- the loop's end, told
  have fin : ∃ e2 S2, compL S1.length vs fg ft fx S0.length xs (wipeE e1 vs) (S1 ++ [.lst w []]) = .ok () e2 S2 ∧ Post X.K X.mg none W S0 (· = σ1) g1 (.ok S1.length (restE vs e1 e2) S2) (fun g' id _ _ _ H' => ∀ a, g'.m[id]? = some a → Q (.ref a) H') := by
    revert q1
    cases compL S1.length vs fg ft fx S0.length xs (wipeE e1 vs) (S1 ++ [.lst w []]) with
    | ok u e2 S2 => exact fun q1 => ⟨e2, S2, rfl, q1⟩
    | exc c fs e2 S2 => exact fun q1 => q1.elim
    | stuck => exact fun q1 => q1.elim
  obtain ⟨e2, S2, hloop, q2⟩ := fin
  -- the new list
  have hm : (g1.new a).m[S1.length]? = some a := by
    show (g1.m ++ [a])[S1.length]? = some a
    rw [← rel1.st.len, List.getElem?_append_right (Nat.le_refl _)]
    simp
  have st' := rel1.st.new (o := .lst []) (ob := .lst w []) ha rfl ⟨rel1.st.fresh ha, [], upd_same, .nil⟩
  have relN := (rel1.move Gh.le_new st' ((KFr.refl S1).push _)).wipe vs
  refine ⟨fun i m H => m = xs.length - i ∧ i ≤ xs.length ∧ ∃ g e S, (g1.new a).le g ∧ Rel X.K X.mg none g S0 e S (L2.wipe σ1 vs) H ∧ compL S1.length vs fg ft fx S0.length (xs.drop i) e S = .ok () e2 S2,
    ⟨xs.length, by simp, Nat.zero_le _, g1.new a, wipeE e1 vs, _, .refl _, relN, hloop⟩, ?_⟩
  rintro i m H ⟨rfl, hi, g3, e3, S3, l3, rel3, c3⟩
  have hid := l3.m _ _ hm
  by_cases hlt : i < xs.length
  · have hd : xs.drop i = xs[i] :: xs.drop (i + 1) := List.drop_eq_getElem_cons hlt
    have hx : xs[i]? = some xs[i] := List.getElem?_eq_getElem hlt
    have lw := Gh.le_new.trans l3
    rw [hd] at c3
    refine .inr ⟨wk.go i _ g3 S3 H hx lw rel3.st, fun H' => ∃ g e S, (g1.new a).le g ∧ Rel X.K X.mg none g S0 e S (L2.wipe σ1 vs) H' ∧ compL S1.length vs fg ft fx S0.length (xs.drop (i + 1)) e S = .ok () e2 S2,
      fun H' hN => ⟨xs.length - (i + 1), by omega, rfl, hlt, hN⟩, fun x H' y => ?_⟩
    obtain ⟨g4, x4, r4⟩ := wk.yld i _ g3 S3 H x H' hx lw rel3.st y
    rw [compL] at c3
    cases hfg : fg xs[i] e3 with
    | none => rw [hfg] at c3; cases c3
    | some e4 =>
      rw [hfg] at c3
      dsimp only at c3
      refine hg g4 S0 e3 S3 _ H' xs[i] x e4 _ (rel3.ext x4) r4 hfg fun σ2 rel5 k5 l5 => ⟨wipe_same k5 l5, g4, S0, e4, S3, rel5, ?_⟩
      revert c3
      cases ft S0.length e4 S3 with
      | stuck => exact fun c3 => by cases c3
      | exc c fs e5 S5 => exact fun c3 => by cases c3
      | ok k e5 S5 =>
        intro c3 g6 σ6 H6 t6 l6 rel6
        subst t6
        rw [R.bind_ok] at c3
        have relW : ∀ {g : Gh} {e : Env} {S : Sto} {H : Hp}, Rel X.K X.mg none g S0 e S σ6 H → Rel X.K X.mg none g S0 (wipeE e vs) S (L2.wipe σ1 vs) H := fun {g e S H} r => by
          have := r.wipe vs
          rw [wipe_same k5 l5] at this
          exact this
        cases k with
        | false =>
          rw [if_neg Bool.false_ne_true] at c3 ⊢
          exact ⟨g6, _, _, (l3.trans x4.le).trans l6, relW rel6, c3⟩
        | true =>
          rw [if_pos rfl] at c3 ⊢
          refine ⟨g6, S0, e5, S5, rel6, ?_⟩
          revert c3
          cases fx S0.length e5 S5 with
          | stuck => exact fun c3 => by cases c3
          | exc c fs e7 S7 => exact fun c3 => by cases c3
          | ok y e7 S7 =>
            intro c3 g7 σ7 H7 t7 l7 rel7 v rv
            subst t7
            rw [R.bind_ok] at c3
            have lg := ((l3.trans x4.le).trans l6).trans l7
            have hid7 := lg.m _ _ hm
            cases hS : S7[S1.length]? with
            | none => rw [hS] at c3; cases c3
            | some ob =>
              rw [hS] at c3
              cases ob with
              | lst w7 acc =>
                dsimp only at c3
                by_cases hl : acc.length < line
                · rw [if_pos hl] at c3
                  obtain ⟨hF, us, h1, h2⟩ := rel7.st.ob _ _ _ hS hid7
                  refine ⟨us, h1, by rw [h2.len, ← line_eq]; exact hl, g7, _, _, lg, relW (rel7.write (ob' := .lst w7 (acc ++ [y])) hS rfl hid7 ⟨hF, _, upd_same, h2.append (.cons rv .nil)⟩ (.inl rel1.le0)), c3⟩
                · rw [if_neg hl] at c3; cases c3
              | dead => cases c3
              | ins c fs => cases c3
  · have e' : i = xs.length := by omega
    subst e'
    rw [List.drop_length, compL] at c3
    cases c3
    refine .inl ⟨wk.stop g3 S2 H (Gh.le_new.trans l3) rel3.st, ?_⟩
    refine q2 g3 σ1 H rfl (Gh.le_new.trans l3) ⟨rel3.st, rel3.le0, rel3.frm, ?_, fun i d h => ?_, fun _ _ _ _ _ _ q => by cases q⟩ a hid
    · have z1 := rel3.el
      rw [wipe_length] at z1
      rw [restE_len]
      exact z1
    · rcases restE_some h with ⟨_, h2⟩ | ⟨h1, h2⟩
      · obtain ⟨v, hv, rv⟩ := rel1.sl i d h2
        exact ⟨v, hv, rv.mono (Gh.le_new.trans l3)⟩
      · obtain ⟨v, hv, rv⟩ := rel3.sl i d h2
        exact ⟨v, (wipe_some hv).1, rv⟩
section
variable {elt tg iter : Expr} {ifs : List Expr} {scope : Scope} {own : List (Str × Nat)} {pos : Pos} {fi : SA} {fg : CT} {gT : TG} {ft : ST} {fx : SE}
theorem re_cr {w : Bool} {W : WX} (ok : Ok X W) (hN : X.N.Nodup) (hi : RI X none tg iter fi) (bk : BlkOk X.N X.env.scope scope own)
    (hg : ∀ (s : Shared) (H : Hp) (C : Addr) (cl : List (Str × Addr)) (fp : List Addr), RC (X.blk s H scope (compEnvC scope cl C X.env) fp) tg (own.map (·.2)) fg gT)
    (ht : ∀ (s : Shared) (H : Hp) (C : Addr) (cl : List (Str × Addr)) (fp : List Addr), RTs (X.blk s H scope (compEnvC scope cl C X.env) fp) ifs ft)
    (hx : ∀ (s : Shared) (H : Hp) (C : Addr) (cl : List (Str × Addr)) (fp : List Addr), RE (X.blk s H scope (compEnvC scope cl C X.env) fp) none elt fx)
    (hc : X.calm = true := by rfl) (hs : ∀ x, foldedSetIterable iter X.env x = pure x := by intro _; rfl) : PE X (.ListComp elt [⟨tg, iter, ifs, 0⟩] scope pos) (tCR X none W (compR w fi (own.map (·.2)) fg ft fx)) :=
  ⟨fun pins s σ H Q I q => (pe_lc hc hN (hi W ok) bk (fun s H C cl fp => (hg s H C cl fp).1) (fun s H C cl fp => ht s H C cl fp W0 (ok_blk ok _ _ _ _ _)) (fun s H C cl fp => hx s H C cl fp W0 (ok_blk ok _ _ _ _ _)) hs).run pins s σ H Q I (lc_read (hg s H 0 [] []).2 q)⟩
theorem compV_read {W : WX} {σ : L2.St} {H : Hp} {Q : VK} {vs : List Nat} (h : tI X none W (compV fi vs fg ft fx) σ H Q) : tCR X none W (compR true fi vs fg ft fx) σ H Q := by
  obtain ⟨g, S0, e, S, rel, q⟩ := h
  refine ⟨g, S0, e, S, rel, q.bind.imp (fun _ t => t) fun g1 id e1 S1 σ1 H1 t1 l1 rel1 q1 a hm => ?_⟩
  cases hS : S1[id]? with
  | none => rw [hS] at q1; exact q1.elim
  | some ob =>
    rw [hS] at q1
    cases ob with
    | lst w acc =>
      obtain ⟨hF, us, h1, h2⟩ := rel1.st.ob _ _ _ hS hm
      have st' := rel1.st.frost hS rfl hm h1
      have le' : g1.le (g1.frz a (.lst us)) := Gh.le_frz hF
      have rep : Rep X.K X.mg (g1.frz a (.lst us)) (.lst acc) (.ref a) := (h2.mono le').lst (by show upd g1.F a (.lst us) a = _; exact upd_same)
      exact q1 _ σ1 H1 t1 le' (rel1.move le' st' ((KFr.refl S1).set hS (.inr fun _ _ => rfl))) _ rep
    | dead => exact q1.elim
    | ins c fs => exact q1.elim
theorem compO_read {W : WX} {w : Bool} {σ : L2.St} {H : Hp} {Q : VK} {vs : List Nat} (h : tI X none W (compO w fi vs fg ft fx) σ H Q) : tCR X none W (compR w fi vs fg ft fx) σ H Q := by
  obtain ⟨g, S0, e, S, rel, q⟩ := h
  exact ⟨g, S0, e, S, rel, q.bind.imp (fun _ t => t) fun g1 id e1 S1 σ1 H1 t1 l1 rel1 q1 a hm => q1 g1 σ1 H1 t1 (.refl g1) rel1 _ (.ref hm)⟩
theorem re_compV (hN : X.N.Nodup) (hi : RI X none tg iter fi) (bk : BlkOk X.N X.env.scope scope own)
    (hg : ∀ (s : Shared) (H : Hp) (C : Addr) (cl : List (Str × Addr)) (fp : List Addr), RC (X.blk s H scope (compEnvC scope cl C X.env) fp) tg (own.map (·.2)) fg gT)
    (ht : ∀ (s : Shared) (H : Hp) (C : Addr) (cl : List (Str × Addr)) (fp : List Addr), RTs (X.blk s H scope (compEnvC scope cl C X.env) fp) ifs ft)
    (hx : ∀ (s : Shared) (H : Hp) (C : Addr) (cl : List (Str × Addr)) (fp : List Addr), RE (X.blk s H scope (compEnvC scope cl C X.env) fp) none elt fx)
    (hc : X.calm = true := by rfl) (hs : ∀ x, foldedSetIterable iter X.env x = pure x := by intro _; rfl) : RE X none (.ListComp elt [⟨tg, iter, ifs, 0⟩] scope pos) (compV fi (own.map (·.2)) fg ft fx) := fun W ok => pe_imp (re_cr ok hN hi bk hg ht hx hc hs) fun σ H Q q => compV_read q
theorem re_compO (w : Bool) (hN : X.N.Nodup) (hi : RI X none tg iter fi) (bk : BlkOk X.N X.env.scope scope own)
    (hg : ∀ (s : Shared) (H : Hp) (C : Addr) (cl : List (Str × Addr)) (fp : List Addr), RC (X.blk s H scope (compEnvC scope cl C X.env) fp) tg (own.map (·.2)) fg gT)
    (ht : ∀ (s : Shared) (H : Hp) (C : Addr) (cl : List (Str × Addr)) (fp : List Addr), RTs (X.blk s H scope (compEnvC scope cl C X.env) fp) ifs ft)
    (hx : ∀ (s : Shared) (H : Hp) (C : Addr) (cl : List (Str × Addr)) (fp : List Addr), RE (X.blk s H scope (compEnvC scope cl C X.env) fp) none elt fx)
    (hc : X.calm = true := by rfl) (hs : ∀ x, foldedSetIterable iter X.env x = pure x := by intro _; rfl) : RE X none (.ListComp elt [⟨tg, iter, ifs, 0⟩] scope pos) (compO w fi (own.map (·.2)) fg ft fx) := fun W ok => pe_imp (re_cr ok hN hi bk hg ht hx hc hs) fun σ H Q q => compO_read q
theorem asg_read {W : WX} {w : Bool} {vs : List Nat} {i : Nat} {f : SE} {t : TE} {D : Ends} {σ : L2.St} {H : Hp} (hr : ∀ σ H (Q : VK), tI X none W f σ H Q → t σ H Q) (h : tSI X none W (asgM f (gnM i)) D σ H) : tAsg t (gName i) D σ H := by
  obtain ⟨g, S0, e, S, rel, q⟩ := h
  refine hr σ H _ ⟨g, S0, e, S, rel, q.bind.imp (fun _ t => trivial) fun g1 d e1 S1 σ1 H1 t1 l1 rel1 q1 v rv => ?_⟩
  subst t1
  unfold gnM at q1
  by_cases hl : i < e1.length
  · rw [if_pos hl, R.bind_ok] at q1
    exact q1 g1 _ H1 trivial (.refl g1) (rel1.slot hl rv (fun _ q => by cases q))
  · rw [if_neg hl] at q1
    exact q1.elim
/-- name = [..] -/
theorem rs_setLc {i : Nat} {y : Str} {py spos : Pos} {f : SE} {w : Bool} (hN : X.N.Nodup) (hi : RI X none tg iter fi) (bk : BlkOk X.N X.env.scope scope own)
    (hg : ∀ (s : Shared) (H : Hp) (C : Addr) (cl : List (Str × Addr)) (fp : List Addr), RC (X.blk s H scope (compEnvC scope cl C X.env) fp) tg (own.map (·.2)) fg gT)
    (ht : ∀ (s : Shared) (H : Hp) (C : Addr) (cl : List (Str × Addr)) (fp : List Addr), RTs (X.blk s H scope (compEnvC scope cl C X.env) fp) ifs ft)
    (hx : ∀ (s : Shared) (H : Hp) (C : Addr) (cl : List (Str × Addr)) (fp : List Addr), RE (X.blk s H scope (compEnvC scope cl C X.env) fp) none elt fx)
    (hf : ∀ W σ H (Q : VK), tI X none W f σ H Q → tCR X none W (compR w fi (own.map (·.2)) fg ft fx) σ H Q)
    (hy : X.N[i]? = some y := by rfl) (hyl : X.env.scope.names.lookup y = some .local := by rfl) (hsw : swapsWith (.ListComp elt [⟨tg, iter, ifs, 0⟩] scope pos) (some (.Name y py)) spos.line X.env = pure true := by exact sw_true rfl rfl rfl (by decide +kernel))
    (hc : X.calm = true := by rfl) (hs : ∀ x, foldedSetIterable iter X.env x = pure x := by intro _; rfl) : RS X none (.Assign [.Name y py] (.ListComp elt [⟨tg, iter, ifs, 0⟩] scope pos) spos) (asgM f (gnM i)) := fun W ok =>
  ⟨fun pins s σ H D I q => (ps_setLc (tt := tTI X none W0 ft) (te := tI X none W0 fx) hc hN hy hyl hsw (hi W ok) bk (fun s H C cl fp => (hg s H C cl fp).1) (fun s H C cl fp => ht s H C cl fp W0 (ok_blk ok _ _ _ _ _)) (fun s H C cl fp => hx s H C cl fp W0 (ok_blk ok _ _ _ _ _)) hs).run pins s σ H D I
    (asg_read (w := w) (vs := []) (fun σ H Q q => lc_read (X := X) (hg s H 0 [] []).2 (hf W σ H Q q)) q)⟩
end
end
end Mir
end

/-! MirMore -/
section
set_option Elab.async false
set_option linter.all false
set_option maxRecDepth 100000
/-! MirMore: is of bools, or as a value, tuple(), a row's names of any row, __init__, the law's end. -/
namespace Mir
open PySem L2

section
variable {X : Cx} {xc : Xc}
theorem ob_isB : OpB X.K X.mg isB (fun x y H Q => ∃ a b, x = .bl a ∧ y = .bl b ∧ Q (.bl (decide (a = b))) H) := fun g S H x y k v u Q r hx hy hz q => by
  unfold isB at hz
  split at hz
  · cases hz; cases hx; cases hy; exact ⟨_, _, rfl, rfl, q⟩
  · cases hz
theorem ob_isnB : OpB X.K X.mg isnB (fun x y H Q => ∃ a b, x = .bl a ∧ y = .bl b ∧ Q (.bl (!decide (a = b))) H) := fun g S H x y k v u Q r hx hy hz q => by
  unfold isnB at hz
  split at hz
  · cases hz; cases hx; cases hy; exact ⟨_, _, rfl, rfl, q⟩
  · cases hz
section
variable {a b : Expr} {pos : Pos} {fa fb : SE}
theorem rt_isB (ha : RE X xc a fa) (hb : RE X xc b fb) : RT X xc (.Compare a [.Is] [b] pos) (cmpT isB fa fb) := rt_cmp op_is_bl ob_isB ha hb (nomark _)
theorem rt_isnB (ha : RE X xc a fa) (hb : RE X xc b fb) : RT X xc (.Compare a [.IsNot] [b] pos) (cmpT isnB fa fb) := rt_cmp op_isnot_bl ob_isnB ha hb (nomark _)
theorem re_isB (ha : RE X xc a fa) (hb : RE X xc b fb) : RE X xc (.Compare a [.Is] [b] pos) (boolM (cmpT isB fa fb)) := re_cmp op_is_bl ob_isB ha hb (nomark _)
theorem re_isnB (ha : RE X xc a fa) (hb : RE X xc b fb) : RE X xc (.Compare a [.IsNot] [b] pos) (boolM (cmpT isnB fa fb)) := re_cmp op_isnot_bl ob_isnB ha hb (nomark _)
end
theorem re_one {op : BoolOp} {a : Expr} {pos : Pos} {f : SE} (h : RE X xc a f) : RE X xc (.BoolOp op [a] pos) f := fun W ok => pe_one (h W ok)
theorem re_orV {a b : Expr} {rest : List Expr} {pos : Pos} {fa fb : SE} (ha : RE X xc a fa) (hb : RE X xc (.BoolOp .Or (b :: rest) pos) fb) : RE X xc (.BoolOp .Or (a :: b :: rest) pos) (orV fa fb) := fun W ok => pe_imp (pe_orT (ha W ok) (hb W ok)) fun σ H Q ⟨g, S0, e, S, rel, q⟩ =>
  ⟨g, S0, e, S, rel, q.bind.imp (fun _ t => t) fun g1 x e1 S1 σ1 H1 t1 l1 rel1 q1 v rv => by
    subst t1
    obtain ⟨k, hk, q2⟩ := q1.bind.opt
    refine ⟨k, truth_ok rel1.st rv hk, ?_⟩
    have q3 := q2 g1 _ H1 rfl (.refl g1) rel1
    cases k with
    | true => rw [if_pos rfl] at q3 ⊢; exact q3 g1 _ H1 rfl (.refl g1) rel1 v rv
    | false => rw [if_neg Bool.false_ne_true] at q3 ⊢; exact ⟨g1, S0, e1, S1, rel1, q3⟩⟩
theorem re_andV {a b : Expr} {rest : List Expr} {pos : Pos} {fa fb : SE} (ha : RE X xc a fa) (hb : RE X xc (.BoolOp .And (b :: rest) pos) fb) : RE X xc (.BoolOp .And (a :: b :: rest) pos) (andV fa fb) := fun W ok => pe_imp (pe_andT (ha W ok) (hb W ok)) fun σ H Q ⟨g, S0, e, S, rel, q⟩ =>
  ⟨g, S0, e, S, rel, q.bind.imp (fun _ t => t) fun g1 x e1 S1 σ1 H1 t1 l1 rel1 q1 v rv => by
    subst t1
    obtain ⟨k, hk, q2⟩ := q1.bind.opt
    refine ⟨k, truth_ok rel1.st rv hk, ?_⟩
    have q3 := q2 g1 _ H1 rfl (.refl g1) rel1
    cases k with
    | true => rw [if_pos rfl] at q3 ⊢; exact ⟨g1, S0, e1, S1, rel1, q3⟩
    | false => rw [if_neg Bool.false_ne_true] at q3 ⊢; exact q3 g1 _ H1 rfl (.refl g1) rel1 v rv⟩
theorem cl_tup : CallL X.K X.mg tupS (fun xs H Q => ∃ p ys, xs = [.ref p] ∧ ((SqL X.K H p ys ∧ ∀ l, H l = none → Q (.ref l) (upd H l (.tup ys))) ∨ (SqT X.K H p ys ∧ Q (.ref p) H))) := fun g S H xs z vs Q r h hz q => by
  unfold tupS at hz
  split at hz
  · rename_i x
    obtain ⟨v, r', rfl, rv, rr⟩ := h.inv
    rw [rr.inv0]
    cases x with
    | tup xs =>
      cases hz
      obtain ⟨a, vs, rfl, h1, h2⟩ := Reps.of_tup rv
      exact ⟨_, vs, rfl, .inr ⟨sub_SqT r h1, q g H _ (.refl g H) rv⟩⟩
    | _ =>
      have nx := Now.of r rv
      revert hz nx
      generalize deref S _ = x'
      intro hz nx
      split at hz
      · cases hz
        obtain ⟨a, vs, rfl, h1, h2⟩ := nx.of_lst
        exact ⟨_, vs, rfl, .inl ⟨SqL.of h1, fun p hp => newTup r h2 q hp⟩⟩
      · cases hz
        obtain ⟨a, vs, rfl, h1, h2⟩ := nx.of_frz r
        exact ⟨_, vs, rfl, .inl ⟨h1, fun p hp => newTup r h2 q hp⟩⟩
      · cases hz
        cases nx with | rep n hh =>
        obtain ⟨a, vs, rfl, h1, h2⟩ := Reps.of_tup hh
        exact ⟨_, vs, rfl, .inr ⟨sub_SqT r h1, q g H _ (.refl g H) hh⟩⟩
      · cases hz
  · cases hz
theorem re_tuple {e : Expr} {p pos : Pos} {f : SE} (hg : Gl X "tuple") (hm : X.mg "tuple" = none) (h : RE X xc e f) (he : starEach [e] X.env = (false, eval e X.env) :: starEach [] X.env := by rfl) : RE X xc (.Call (.Name "tuple" p) [e] [] pos) (fnA tupS (consA f nilA)) :=
  re_callTy call_tuple_of cl_tup hg hm (by decide +kernel) (ra_cons h ra_nil he) (by decide) (by decide) he
theorem pg_or {tg : Expr} {t t' : TG} (h : PG X tg t) (h' : PG X tg t') : PG X tg (fun v σ H Q => t v σ H Q ∨ t' v σ H Q) := ⟨fun pins s σ H v u Q I r q => by
  rcases q with q | q
  · exact h.run pins s σ H v u Q I r q
  · exact h'.run pins s σ H v u Q I r q⟩
theorem rg_row {es : List Expr} {k n : Nat} {pos : Pos} {fs : Nat → List D → Env → Sto → R Unit} (h : RGs X xc es fs) (hc : X.calm = true := by rfl) (hn : (assignEach es X.env).length = n := by rfl) (hst : (assignEach es X.env).findIdx? (·.1) = none := by rfl) :
    RG X xc (.Tuple es k pos) (gqM n fs) := fun W ok => pg_imp (pg_or (pg_tup hc (h W ok) hn hst) (pg_lst hc (h W ok) hn hst)) fun v σ H Q ⟨g, S0, e, S, d, rel, rv, q⟩ => by
  unfold gqM at q
  have nx := Now.of rel.st rv
  revert q nx
  generalize deref S d = d'
  intro q nx
  cases d' with
  | tup xs =>
    dsimp only at q
    by_cases hl : xs.length = n
    · rw [if_pos hl] at q
      obtain ⟨a, vs, rfl, h1, h2⟩ := nx.of_tup rel.st
      exact .inl ⟨a, vs, rfl, h1, h2.len.trans hl, g, S0, e, S, xs, rel, h2, q⟩
    · rw [if_neg hl] at q
      exact q.elim
  | lst xs =>
    dsimp only at q
    by_cases hl : xs.length = n
    · rw [if_pos hl] at q
      obtain ⟨a, vs, rfl, h1, h2⟩ := nx.of_lst
      exact .inr ⟨a, vs, rfl, SqL.of h1, h2.len.trans hl, g, S0, e, S, xs, rel, h2, q⟩
    · rw [if_neg hl] at q
      exact q.elim
  | frz xs =>
    dsimp only at q
    by_cases hl : xs.length = n
    · rw [if_pos hl] at q
      obtain ⟨a, vs, rfl, h1, h2⟩ := nx.of_frz rel.st
      exact .inr ⟨a, vs, rfl, h1, h2.len.trans hl, g, S0, e, S, xs, rel, h2, q⟩
    · rw [if_neg hl] at q
      exact q.elim
  | _ => exact q.elim

/-! ### __init__ -/
theorem KFr.ofLast (S : Sto) : KFr S.dropLast S := by
  refine ⟨by simp, fun i o hi ho => ⟨o, ?_, fun _ q => q⟩⟩
  rw [List.dropLast_eq_take, List.getElem?_take, if_pos (by simpa using hi)]
  exact ho
theorem ini_go {k : Nat} {body : SS} {vs : List V} {H : Hp} {Q : VK} {E : XK} {N : List Str} {n : Nat} (hN : N.length = n) (h : spI X.K X.mg k List.dropLast (iniM n body) vs H Q E) :
    tSI X none (fun cls d _ H => E cls d H) body { nx := fun _ H' => Q .non H', rt := Q } (start N vs) H := by
  obtain ⟨g, S, ds, hn, r, hr, q⟩ := h
  refine ⟨g, S.dropLast, _, S, Rel.start (N := N) r (.ofLast S) hr, ?_⟩
  rw [hN, List.length_dropLast]
  unfold iniM at q
  revert q
  cases body (S.length - 1) (ds.map some ++ List.replicate (n - ds.length) none) S with
  | stuck => exact fun q => q
  | exc c fs e1 S1 =>
    intro q
    dsimp only at q
    by_cases hl : limF 0 fs = true
    · rw [if_pos hl] at q
      exact fun g' σ' H' cls d _ l rel x => q g' H' cls d l rel.st rel.kfr x
    · rw [if_neg hl] at q
      exact q.elim
  | ok f e1 S1 =>
    intro q g' σ' H' _ l rel
    cases f with
    | nx => exact q g' H' .non l rel.st rel.kfr .non
    | ret d =>
      intro v rv
      cases d <;> first | (exact q.elim; done) | skip
      cases rv
      exact q g' H' .non l rel.st rel.kfr .non
    | bk => exact q.elim
    | ct => exact q.elim
section
variable {P : Program} {w : World} {K : PySem.W.Frag} {mg : Str → Option Value} {base : Heap}
/-- THE RULE for an __init__ -/
theorem ini_ok {x qual : Str} {st : Stmt} {f : Addr} {fd : FuncData} {N ps : List Str} {k n c : Nat} {body : SS} (F : Fun K x qual st f fd) (S : FnScope N ps (defScope st)) (hN : N.length = n) (hc : ps.length = c)
    (h : ∀ (cdv : Value) (A : Around) (outer : List PySem.Env) (s : Shared) (H : Hp) (E : XK), Room k (A.deeper (PyProof.Rows.envOfC qual (defScope st) s.heap.objs.size f cdv)) →
      RSs (cxOf (L2.CX P w) P w K mg base N qual (defScope st) f cdv A outer s H E) none (defBody st) body) : FnOk P w K mg base (L2.CX P w) (k + 1) f fd ps (spI K mg c List.dropLast (iniM n body)) := by
  refine F.okX S (fun vs H Q E h => by rw [spI_len vs H Q E h, hc]) fun cdv A outer s H vs Q E hr hsp => ?_
  refine ⟨_, h cdv A outer s H E hr (fun cls d _ H => E cls d H) ⟨takes_of rfl rfl rfl rfl, passes_of rfl, hr.units⟩, ini_go (X := cxOf (L2.CX P w) P w K mg base N qual (defScope st) f cdv A outer s H E) hN hsp⟩

/-! ### the law's end -/
/-- the law's promise: where its meaning answers True -/
def spL (K : PySem.W.Frag) (m : SF) : Sp := fun vs H Q _ => ∃ (a : Addr) (ns : List Int), vs = [.ref a] ∧ SqL K H a (ns.map V.int) ∧ (∃ e S', m [.frz (ns.map D.int)] [] = .ok (.bl true) e S') ∧ ∀ H', Q (.bl true) H'
theorem spL_of {m : SF} (vs : List V) (H : Hp) (Q : VK) (E : XK) (h : spL K m vs H Q E) : spI K mg 1 id m vs H Q E := by
  obtain ⟨a, ns, rfl, hs, ⟨e, S', hm⟩, q⟩ := h
  refine ⟨⟨H, [], fun _ => none⟩, [], [.frz (ns.map D.int)], rfl, ⟨fun _ _ h => h, rfl, fun i o a h => by simp at h, fun i j o o' a h => by simp at h⟩, .cons (.frz hs (by simp) fun i d v h1 h2 => ?_) .nil, ?_⟩
  · rw [List.getElem?_map] at h1 h2
    cases hn : ns[i]? with
    | none => rw [hn] at h1; cases h1
    | some z => rw [hn] at h1 h2; cases h1; cases h2; exact .int
  · rw [hm]
    intro g' H' v _ _ _ rv
    cases rv
    exact q H'
end
end
theorem law_end {l : PySem.W.OpenLaw} {q : Program} {loose : List Str} {XP : (Str → Option Value) → Heap → Prop} {YP : World → Heap → Prop} {d : DefRec} {K : Params → PySem.W.Frag} {k : Nat} {x : Str} {m : SF} (hn : l.most = some 63) (hdf : d.params.defaults = []) (hr : Room k callerA)
    (hY : ∀ (w : World) (h : Heap), YP w h → (K w.params).In h)
    (F : ∀ (w : World) (mg : Str → Option Value) (fa : Addr) (h : Heap), (K w.params).In h → h.Ns mainGlobals mg → mg d.name = some (.ref fa) →
      ∃ fd : FuncData, (∀ (s : Shared) (u : Value), BindsTo s fd ⟨[u], []⟩ [(x, u)]) ∧
        ∀ base : Heap, (K w.params).In base → base.Ns mainGlobals mg → FnOk l.prog w (K w.params) mg base (L2.CX l.prog w) k fa fd [x] (spI (K w.params) mg 1 id m))
    (law : ∀ ns : List Int, ns.length ≤ 63 → (∀ z ∈ ns, Builtin.Int.intBits z ≤ 1048576) → ∃ e S', m [.frz (ns.map D.int)] [] = .ok (.bl true) e S') :
    PySem.W.WalkO q loose XP YP l.row.toRowW d [] (fun f vs => PySem.call f vs) :=
  walk_ofB (n := 63) (k := k) (x := x) (CX := fun w => L2.CX l.prog w) (sp := fun w => spL (K w.params) m) hn (by decide) hdf hr hY
    (fun w mg fa h a b c => let ⟨fd, h1, h2⟩ := F w mg fa h a b c; ⟨fd, h1, fun base x y => (h2 base x y).imp fun vs H Q E z => spL_of vs H Q E z⟩)
    (fun w H a ns h1 h2 _ h4 => ⟨a, ns, rfl, h4, law ns h1 h2, fun _ => rfl⟩)
    (fun w H s e s' ⟨_, _, _, _, _, _, _, _, _, _, _, _, z⟩ => z)
end Mir
end

/-! MirDef -/
section
set_option Elab.async false
set_option linter.all false
set_option maxRecDepth 100000
/-! MirDef: defs of a module as callees by name; not by truth; what is written of a def. -/
namespace Mir
open PySem L2

/-- a def of the module at hand: its promise by its meaning -/
def DefOk (P : Program) (w : World) (K : PySem.W.Frag) (mg : Str → Option Value) (base : Heap) (x : String) (k lvl : Nat) (m : SF) : Prop :=
  ∃ f fd ps, mg (nm x) = some (.ref f) ∧ PySem.W.keepIn K (.ref f) = true ∧ FnOk P w K mg base (L2.CX P w) lvl f fd ps (spI K mg k id m) ∧ Binds K fd ps []
/-- what the written part tells of a def -/
def FunD (K : PySem.W.Frag) (mg : Str → Option Value) (x q : String) (st : Stmt) : Prop := ∃ f fd, mg (nm x) = some (.ref f) ∧ PySem.W.keepIn K (.ref f) = true ∧ Fun K (nm x) (nm q) st f fd
theorem funD_mk {K : PySem.W.Frag} {h : Heap} {mg : Str → Option Value} {x q : String} {st : Stmt} {f : Addr} {oc : Value} {od an : Option Addr} {osl : Array (Option Value)} {kV doc pm cdv ct : Value} (X : K.In h) (G : h.Ns mainGlobals mg)
    (a : PySem.W.nsIn K mainGlobals (nm x) = some (some (.ref f))) (l : K.lookup f = some ⟨oc, od, .func (PySem.W.fnOf (nm x) (nm q) (defArgs st) (defBody st) (defScope st) .none kV doc pm an cdv ct), osl⟩)
    (c : PySem.W.codeIn K cdv (nm q) = true) (k : PySem.W.keepIn K (.ref f) = true) : FunD K mg x q st := ⟨f, _, PySem.W.mg_of X G a, k, fun_mk (st := st) l c k⟩
theorem FunD.ok {P : Program} {w : World} {K : PySem.W.Frag} {mg : Str → Option Value} {base : Heap} {x q : String} {st : Stmt} {k lvl : Nat} {m : SF} (D : FunD K mg x q st) (ps : List Str)
    (h : ∀ f fd, Fun K (nm x) (nm q) st f fd → FnOk P w K mg base (L2.CX P w) lvl f fd ps (spI K mg k id m))
    (hb : ∀ (kV doc pm : Value) (an : Option Addr) (cdv ct : Value) (us : List Value), us.length = ps.length → bindArgs (PySem.W.fnOf (nm x) (nm q) (defArgs st) (defBody st) (defScope st) .none kV doc pm an cdv ct) ⟨us, []⟩ = pure (ps.zip us)) :
    DefOk P w K mg base x k lvl m := by
  obtain ⟨f, fd, h1, h2, F⟩ := D
  exact ⟨f, fd, ps, h1, h2, h f fd F, F.binds (ps := ps) hb⟩
section
variable {X : Cx} {xc : Xc}
theorem re_callD {x : String} {e : Expr} {es : List Expr} {p pos : Pos} {k lvl : Nat} {m : SF} {fs : SA} (D : DefOk X.prog X.w X.K X.mg X.base x k lvl m) (hr : Room lvl X.A) (hg : Gl X (nm x))
    (ha : RA X xc (e :: es) fs) (hdb : (nm x == ("__debug__" : Str)) = false := by decide +kernel) (he : starEach (e :: es) X.env = (false, eval e X.env) :: starEach es X.env := by rfl) (hpl : (backTo pos (starEach es X.env)).any (·.1) = false := by rfl) :
    RE X xc (.Call (.Name (nm x) p) (e :: es) [] pos) (callM m k fs) := by
  obtain ⟨f, fd, ps, h1, h2, F, b⟩ := D
  exact re_call ⟨fd, ps, lvl, F, b, hr⟩ hg h1 h2 ha hdb he hpl
theorem re_callD0 {x : String} {p pos : Pos} {lvl : Nat} {m : SF} (D : DefOk X.prog X.w X.K X.mg X.base x 0 lvl m) (hr : Room lvl X.A) (hg : Gl X (nm x)) (hdb : (nm x == ("__debug__" : Str)) = false := by decide +kernel) :
    RE X xc (.Call (.Name (nm x) p) [] [] pos) (callM m 0 nilA) := by
  obtain ⟨f, fd, ps, h1, h2, F, b⟩ := D
  exact re_call0 ⟨fd, ps, lvl, F, b, hr⟩ hg h1 h2 hdb
theorem ro_none : RO X xc none none := True.intro
theorem ro_some {e : Expr} {f : SE} (h : RE X xc e f) : RO X xc (some e) (some f) := h
theorem re_edi {pos : Pos} : RE X xc (.Dict [] [] pos) (cM .edi) := fun W ok => pe_imp pe_dnewK fun σ H Q ⟨g, S0, e, S, rel, q⟩ p hp => by
  have x := Ext.frz (o := .dK []) rel.st hp
  exact q _ σ _ rfl x.le (rel.ext x) _ (.edi (by show upd g.F p _ p = _; exact upd_same))
theorem re_notV {a : Expr} {pos : Pos} {fa : SE} (ha : RE X xc a fa) : RE X xc (.UnaryOp .Not a pos) (notV fa) := fun W ok => pe_imp (pe_notT (ha W ok)) fun σ H Q ⟨g, S0, e, S, rel, q⟩ =>
  ⟨g, S0, e, S, rel, q.bind.imp (fun _ t => t) fun g1 x e1 S1 σ1 H1 t1 l1 rel1 q1 v rv => by
    subst t1
    obtain ⟨k, hk, q2⟩ := q1.bind.opt
    exact ⟨k, truth_ok rel1.st rv hk, q2 g1 _ H1 rfl (.refl g1) rel1 g1 _ H1 rfl (.refl g1) rel1 _ .bl⟩⟩
end

/-! ### isinstance of a built-in type -/
theorem it_bool {X : Cx} (n : NoTy X) : ITbl X (fun t b => PySem.W.kitOne X.K t (.type "bool") = some b) ty_bool := by
  obtain ⟨n1, n2, n3, n4, n5, n6, n7, n8⟩ := n
  exact .ty rfl n1 (.ty rfl n2 (.ty rfl n3 (.ty rfl n4 (.ty rfl n5 (.ty rfl n6 (.ty rfl n7 (.ty rfl n8 .nil)))))))
theorem re_isi_bool {X : Cx} {e : Expr} {p p2 pos : Pos} {f : SE} (hg : Gl X "isinstance") (hm : X.mg "isinstance" = none) (nt : NoTy X) (hg2 : Gl X "bool") (hm2 : X.mg "bool" = none) (h : RE X xc e f)
    (he : starEach [e, .Name "bool" p2] X.env = (false, eval e X.env) :: starEach [.Name "bool" p2] X.env := by rfl) (he2 : starEach [.Name "bool" p2] X.env = (false, eval (.Name "bool" p2) X.env) :: starEach [] X.env := by rfl) (hpl : (backTo pos (starEach [.Name "bool" p2] X.env)).any (·.1) = false := by rfl) :
    RE X xc (.Call (.Name "isinstance" p) [e, .Name "bool" p2] [] pos) (boolM (isiM ty_bool f)) := re_isi hg hm nt h (pe_bltn hg2 hm2 (by decide +kernel) (show RelV (.ty "bool") (.type "bool") from rfl)) (.ty "bool") (it_bool nt) he he2 hpl
theorem it_int {X : Cx} (n : NoTy X) : ITbl X (fun t b => PySem.W.kitOne X.K t (.type "int") = some b) ty_int := by
  obtain ⟨n1, n2, n3, n4, n5, n6, n7, n8⟩ := n
  exact .ty rfl n1 (.ty rfl n2 (.ty rfl n3 (.ty rfl n4 (.ty rfl n5 (.ty rfl n6 (.ty rfl n7 (.ty rfl n8 .nil)))))))
theorem re_isi_int {X : Cx} {e : Expr} {p p2 pos : Pos} {f : SE} (hg : Gl X "isinstance") (hm : X.mg "isinstance" = none) (nt : NoTy X) (hg2 : Gl X "int") (hm2 : X.mg "int" = none) (h : RE X xc e f)
    (he : starEach [e, .Name "int" p2] X.env = (false, eval e X.env) :: starEach [.Name "int" p2] X.env := by rfl) (he2 : starEach [.Name "int" p2] X.env = (false, eval (.Name "int" p2) X.env) :: starEach [] X.env := by rfl) (hpl : (backTo pos (starEach [.Name "int" p2] X.env)).any (·.1) = false := by rfl) :
    RE X xc (.Call (.Name "isinstance" p) [e, .Name "int" p2] [] pos) (boolM (isiM ty_int f)) := re_isi hg hm nt h (pe_bltn hg2 hm2 (by decide +kernel) (show RelV (.ty "int") (.type "int") from rfl)) (.ty "int") (it_int nt) he he2 hpl
theorem it_str {X : Cx} (n : NoTy X) : ITbl X (fun t b => PySem.W.kitOne X.K t (.type "str") = some b) ty_str := by
  obtain ⟨n1, n2, n3, n4, n5, n6, n7, n8⟩ := n
  exact .ty rfl n1 (.ty rfl n2 (.ty rfl n3 (.ty rfl n4 (.ty rfl n5 (.ty rfl n6 (.ty rfl n7 (.ty rfl n8 .nil)))))))
theorem re_isi_str {X : Cx} {e : Expr} {p p2 pos : Pos} {f : SE} (hg : Gl X "isinstance") (hm : X.mg "isinstance" = none) (nt : NoTy X) (hg2 : Gl X "str") (hm2 : X.mg "str" = none) (h : RE X xc e f)
    (he : starEach [e, .Name "str" p2] X.env = (false, eval e X.env) :: starEach [.Name "str" p2] X.env := by rfl) (he2 : starEach [.Name "str" p2] X.env = (false, eval (.Name "str" p2) X.env) :: starEach [] X.env := by rfl) (hpl : (backTo pos (starEach [.Name "str" p2] X.env)).any (·.1) = false := by rfl) :
    RE X xc (.Call (.Name "isinstance" p) [e, .Name "str" p2] [] pos) (boolM (isiM ty_str f)) := re_isi hg hm nt h (pe_bltn hg2 hm2 (by decide +kernel) (show RelV (.ty "str") (.type "str") from rfl)) (.ty "str") (it_str nt) he he2 hpl
theorem it_bytes {X : Cx} (n : NoTy X) : ITbl X (fun t b => PySem.W.kitOne X.K t (.type "bytes") = some b) ty_bytes := by
  obtain ⟨n1, n2, n3, n4, n5, n6, n7, n8⟩ := n
  exact .ty rfl n1 (.ty rfl n2 (.ty rfl n3 (.ty rfl n4 (.ty rfl n5 (.ty rfl n6 (.ty rfl n7 (.ty rfl n8 .nil)))))))
theorem re_isi_bytes {X : Cx} {e : Expr} {p p2 pos : Pos} {f : SE} (hg : Gl X "isinstance") (hm : X.mg "isinstance" = none) (nt : NoTy X) (hg2 : Gl X "bytes") (hm2 : X.mg "bytes" = none) (h : RE X xc e f)
    (he : starEach [e, .Name "bytes" p2] X.env = (false, eval e X.env) :: starEach [.Name "bytes" p2] X.env := by rfl) (he2 : starEach [.Name "bytes" p2] X.env = (false, eval (.Name "bytes" p2) X.env) :: starEach [] X.env := by rfl) (hpl : (backTo pos (starEach [.Name "bytes" p2] X.env)).any (·.1) = false := by rfl) :
    RE X xc (.Call (.Name "isinstance" p) [e, .Name "bytes" p2] [] pos) (boolM (isiM ty_bytes f)) := re_isi hg hm nt h (pe_bltn hg2 hm2 (by decide +kernel) (show RelV (.ty "bytes") (.type "bytes") from rfl)) (.ty "bytes") (it_bytes nt) he he2 hpl
theorem it_list {X : Cx} (n : NoTy X) : ITbl X (fun t b => PySem.W.kitOne X.K t (.type "list") = some b) ty_list := by
  obtain ⟨n1, n2, n3, n4, n5, n6, n7, n8⟩ := n
  exact .ty rfl n1 (.ty rfl n2 (.ty rfl n3 (.ty rfl n4 (.ty rfl n5 (.ty rfl n6 (.ty rfl n7 (.ty rfl n8 .nil)))))))
theorem re_isi_list {X : Cx} {e : Expr} {p p2 pos : Pos} {f : SE} (hg : Gl X "isinstance") (hm : X.mg "isinstance" = none) (nt : NoTy X) (hg2 : Gl X "list") (hm2 : X.mg "list" = none) (h : RE X xc e f)
    (he : starEach [e, .Name "list" p2] X.env = (false, eval e X.env) :: starEach [.Name "list" p2] X.env := by rfl) (he2 : starEach [.Name "list" p2] X.env = (false, eval (.Name "list" p2) X.env) :: starEach [] X.env := by rfl) (hpl : (backTo pos (starEach [.Name "list" p2] X.env)).any (·.1) = false := by rfl) :
    RE X xc (.Call (.Name "isinstance" p) [e, .Name "list" p2] [] pos) (boolM (isiM ty_list f)) := re_isi hg hm nt h (pe_bltn hg2 hm2 (by decide +kernel) (show RelV (.ty "list") (.type "list") from rfl)) (.ty "list") (it_list nt) he he2 hpl
theorem it_tuple {X : Cx} (n : NoTy X) : ITbl X (fun t b => PySem.W.kitOne X.K t (.type "tuple") = some b) ty_tuple := by
  obtain ⟨n1, n2, n3, n4, n5, n6, n7, n8⟩ := n
  exact .ty rfl n1 (.ty rfl n2 (.ty rfl n3 (.ty rfl n4 (.ty rfl n5 (.ty rfl n6 (.ty rfl n7 (.ty rfl n8 .nil)))))))
theorem re_isi_tuple {X : Cx} {e : Expr} {p p2 pos : Pos} {f : SE} (hg : Gl X "isinstance") (hm : X.mg "isinstance" = none) (nt : NoTy X) (hg2 : Gl X "tuple") (hm2 : X.mg "tuple" = none) (h : RE X xc e f)
    (he : starEach [e, .Name "tuple" p2] X.env = (false, eval e X.env) :: starEach [.Name "tuple" p2] X.env := by rfl) (he2 : starEach [.Name "tuple" p2] X.env = (false, eval (.Name "tuple" p2) X.env) :: starEach [] X.env := by rfl) (hpl : (backTo pos (starEach [.Name "tuple" p2] X.env)).any (·.1) = false := by rfl) :
    RE X xc (.Call (.Name "isinstance" p) [e, .Name "tuple" p2] [] pos) (boolM (isiM ty_tuple f)) := re_isi hg hm nt h (pe_bltn hg2 hm2 (by decide +kernel) (show RelV (.ty "tuple") (.type "tuple") from rfl)) (.ty "tuple") (it_tuple nt) he he2 hpl
end Mir
end

/-! MirTry -/
section
set_option Elab.async false
set_option linter.all false
set_option maxRecDepth 100000
/-! MirTry: try with any clauses, named or not. -/
namespace Mir
open PySem L2 PySem.Spec PyProof.Rows

/-- the ends of a named clause: its name goes -/
def offEnds (D : Ends) (i : Nat) : Ends := ⟨fun τ G => D.nx (τ.set i none) G, D.rt, fun τ G => D.bk (τ.set i none) G, fun τ G => D.ct (τ.set i none) G⟩
abbrev Suite := Addr → Value → Option Addr → TS
/-- what the clauses ask of an exception -/
def wishes (K : PySem.W.Frag) (V : WX) (D : Ends) : List (Value × Option Nat × Suite) → WX
  | [] => V
  | (c, o, u) :: more => fun cls d τ G => ∃ hit, PySem.W.exmOne K cls c = some hit ∧ (hit = false → wishes K V D more cls d τ G) ∧
      (hit = true → ∀ a, G a = none → match o with
        | none => u a cls d D τ G
        | some i => u a cls d (offEnds D i) (τ.set i (some (.ref a))) G)
inductive Clauses (X : Cx) : List ExceptHandler → List (Value × Option Nat × Suite) → Prop
  | nil : Clauses X [] []
  | bare {x : Str} {c : Value} {u : Suite} {st : Stmt} {sts : List Stmt} {p q : Pos} {es : List ExceptHandler} {l : List (Value × Option Nat × Suite)} (nm : Names X x c)
      (su : ∀ (a : Addr) (oe : Obj) (cls : Value) (d : Option Addr) (pn : List (Addr × Obj)), Zc cls d oe → (∃ vs, oe.data = .fields vs) → PSs (X.suite a ((a, oe) :: pn)) (st :: sts) (u a cls d)) (more : Clauses X es l) :
      Clauses X (.ExceptHandler (some (.Name x p)) none (st :: sts) q :: es) ((c, none, u) :: l)
  | named {x y : Str} {c : Value} {i : Nat} {u : Suite} {st : Stmt} {sts : List Stmt} {p q : Pos} {es : List ExceptHandler} {l : List (Value × Option Nat × Suite)} (nm : Names X x c) (at_ : X.N[i]? = some y) (own : X.env.kindOf y = some .local)
      (su : ∀ (a : Addr) (oe : Obj) (cls : Value) (d : Option Addr) (pn : List (Addr × Obj)), Zc cls d oe → (∃ vs, oe.data = .fields vs) → PSs (X.suite a ((a, oe) :: pn)) (st :: sts) (u a cls d)) (more : Clauses X es l) :
      Clauses X (.ExceptHandler (some (.Name x p)) (some y) (st :: sts) q :: es) ((c, some i, u) :: l)
section
variable {X : Cx} {pins : List (Addr × Obj)} {D : Ends} {V : WX} {B : Heap} {a : Addr} {cls : Value} {d : Option Addr} {τ : L2.St} {G : Hp} {sI s' : Shared}
/-- an exception that was caught -/
structure Held (X : Cx) (pins : List (Addr × Obj)) (B : Heap) (a : Addr) (cls : Value) (d : Option Addr) (τ : L2.St) (G : Hp) (sI s' : Shared) : Prop where
  ok : X.Ok
  nd : X.N.Nodup
  stk : X.stack = X.env :: X.outer
  fr : X.env.frame = some X.env.locals
  inv : Inv X pins τ G sI
  nb : ∀ b o, sI.heap.get? b = some o → b ∉ frs X.stack → B.get? b = some o
  na : G a = none
  os : s'.os = sI.os
  ag : AllBare s'.gens
theorem Held.inside (h : Held X pins B a cls d τ G sI s') {hp : Heap} (fl : HandSPX.FlyingZ B (X.env :: X.outer) a (Zc cls d) hp) (up : sI.heap.UpToSlots hp) :
    ∃ oe vs, hp.get? a = some oe ∧ Zc cls d oe ∧ oe.data = .fields vs ∧ Inv (X.suite a ((a, oe) :: (X.pn ++ pins))) [] τ G { s' with heap := hp } := by
  obtain ⟨oe, vs, e1, e2, e3⟩ := fl.there
  have off : a ∉ frs (X.env :: X.outer) := fun hm => by
    obtain ⟨_, o2, q1, q2⟩ := fl.2.2.1.mem hm
    rw [e1] at q1
    cases q1
    exact q2 _ e3
  have n1 : a ≠ X.env.locals := fun z => off (List.mem_filterMap.mpr ⟨X.env, List.mem_cons_self, by rw [h.fr, z]⟩)
  have n2 : a ∉ X.fs := fun hm => by
    obtain ⟨e, m1, m2⟩ := List.mem_filterMap.mp hm
    exact off (List.mem_filterMap.mpr ⟨e, List.mem_cons_of_mem _ m1, m2⟩)
  exact ⟨oe, vs, e1, e2, e3, (h.inv.landed (s' := { s' with heap := hp }) h.nb fl.1 up h.os h.ag).suite e1 e3 h.na n1 n2⟩
theorem Held.go (h : Held X pins B a cls d τ G sI s') (tk : Takes X V) {hp : Heap} (fl : HandSPX.FlyingZ B (X.env :: X.outer) a (Zc cls d) hp) (up : sI.heap.UpToSlots hp) {es : List ExceptHandler} {l : List (Value × Option Nat × Suite)} (cl : Clauses X es l) :
    wishes X.K V D l cls d τ G → wpAny (model X.prog X.w) X.A (handleBy (.ref a) X.env es) (SP X pins D) X.xe { s' with heap := hp } := by
  induction cl with
  | nil =>
    intro w
    refine wpAny_handleBy_nil ?_
    obtain ⟨z1, z2, z3, oe, vs, T, oT, ts, y1, y2, y3, y4, y5⟩ := id fl
    unfold PySem.passOn
    refine wpAny_bind (wpAny_field y1 y3 y4 ?_)
    rw [if_neg (show ¬ ((Value.ref T == Value.none) = true) from by simp)]
    have out : wpAny (model X.prog X.w) X.A (setFlight (.ref a) X.env.frame) (fun _ t => wpAny (model X.prog X.w) X.A (throw (.ref a) : Sem Flow) (SP X pins D) X.xe t) X.xe { s' with heap := hp } := by
      rw [h.fr]
      refine HandSPX.setFlight_upZ fl fun hp2 held up2 => wpAny_throw (tk _ _ ⟨a, B, sI, pins, τ, G, cls, d, rfl, h.inv, h.nb, up.trans up2, .inr (.inr (by rw [h.stk]; exact held)), h.na, h.os, h.ag, w⟩)
    first
      | exact wpAny_bind (wpAny_pure (wpAny_bind out))
      | exact wpAny_bind out
  | @bare x c u st sts p q es l nm su more ih =>
    intro w
    obtain ⟨hit, e1, no, yes⟩ := w
    obtain ⟨oe, vs, i1, i2, i3, I⟩ := h.inside fl up
    refine wpAny_handleBy_cons (codeAny_handlers_test ?_) (by intro q; cases q)
    have L := PySem.W.exm_one (M := model X.prog X.w) I.kIn (fun A Q E s k r => wpAny_typeOf_ref (k _ _ i1) (by rw [i2.1]; exact r)) e1
    have named : ∀ {Q : Value → Shared → Prop} {E : Value → Shared → Prop}, Q c { s' with heap := hp } → wpAny (model X.prog X.w) (X.A.mark (some (.ref a))) (eval (.Name x p) X.env) Q E { s' with heap := hp } := fun {Q E} r => by
      obtain ⟨m1, m2, m3 | ⟨m3, m4, m5⟩⟩ := nm
      · exact ld_glob I m1 m3 r m2
      · exact ld_blt I m1 m3 m4 r m5 m2
    refine named (L.here ?_)
    cases hit with
    | false => exact ih (no rfl)
    | true =>
      refine codeAny_handlers_suite ?_
      refine HandSPX.lands_againZ fl fun hp2 fl2 up2 => ?_
      obtain ⟨o2, v2, k1, k2, k3, I2⟩ := h.inside fl2 (up.trans up2)
      refine wpAny_mono ((su a o2 cls d (X.pn ++ pins) k2 ⟨_, k3⟩).run [] _ _ G _ I2 (yes rfl a h.na)) (fun f t r => ?_) (fun _ _ z => False.elim z)
      cases f with
      | ret v =>
        obtain ⟨v6, τ6, G6, I6, r6, q6⟩ := r
        exact ⟨_, _, _, I6.unsuite h.ok, r6, q6⟩
      | next => obtain ⟨τ6, G6, I6, q6⟩ := r; exact ⟨_, _, I6.unsuite h.ok, q6⟩
      | brk => obtain ⟨τ6, G6, I6, q6⟩ := r; exact ⟨_, _, I6.unsuite h.ok, q6⟩
      | cont => obtain ⟨τ6, G6, I6, q6⟩ := r; exact ⟨_, _, I6.unsuite h.ok, q6⟩
  | @named x y c i u st sts p q es l nm at_ own su more ih =>
    intro w
    obtain ⟨hit, e1, no, yes⟩ := w
    obtain ⟨oe, vs, i1, i2, i3, I⟩ := h.inside fl up
    refine wpAny_handleBy_cons (codeAny_handlers_test ?_) (by intro q; cases q)
    have L := PySem.W.exm_one (M := model X.prog X.w) I.kIn (fun A Q E s k r => wpAny_typeOf_ref (k _ _ i1) (by rw [i2.1]; exact r)) e1
    have named : ∀ {Q : Value → Shared → Prop} {E : Value → Shared → Prop}, Q c { s' with heap := hp } → wpAny (model X.prog X.w) (X.A.mark (some (.ref a))) (eval (.Name x p) X.env) Q E { s' with heap := hp } := fun {Q E} r => by
      obtain ⟨m1, m2, m3 | ⟨m3, m4, m5⟩⟩ := nm
      · exact ld_glob I m1 m3 r m2
      · exact ld_blt I m1 m3 m4 r m5 m2
    refine named (L.here ?_)
    cases hit with
    | false => exact ih (no rfl)
    | true =>
      refine codeAny_handlers_suite_as ?_
      refine HandSPX.lands_againZ fl fun hp2 fl2 up2 => ?_
      obtain ⟨o2, v2, k1, k2, k3, I2⟩ := h.inside fl2 (up.trans up2)
      refine store_ok (X := X.suite a ((a, o2) :: (X.pn ++ pins))) (v := .ref a) I2 h.nd at_ (.inl own) rfl (fun t I3 => ?_) (.inr own)
      refine wpAny_mono ((su a o2 cls d (X.pn ++ pins) k2 ⟨_, k3⟩).run [] _ _ G _ I3 (yes rfl a h.na)) (fun f t r => ?_) (fun _ _ z => False.elim z)
      have off : ∀ {τ6 : L2.St} {G6 : Hp} {Q : Shared → Prop}, Inv (X.suite a ((a, o2) :: (X.pn ++ pins))) [] τ6 G6 t → (∀ t7, Inv X pins (τ6.set i none) G6 t7 → Q t7) →
          wpAny (model X.prog X.w) X.A (do bindName X.env y .none; unbindBehindTheSuite X.env y q) (fun _ t7 => Q t7) X.xe t := fun {τ6 G6 Q} I6 hq => gone_ok (I6.unsuite h.ok) h.nd at_ own hq
      cases f with
      | ret v =>
        obtain ⟨v6, τ6, G6, I6, r6, q6⟩ := r
        exact off I6 fun t7 I7 => ⟨_, _, _, I7, r6, q6⟩
      | next => obtain ⟨τ6, G6, I6, q6⟩ := r; exact off I6 fun t7 I7 => ⟨_, _, I7, q6⟩
      | brk => obtain ⟨τ6, G6, I6, q6⟩ := r; exact off I6 fun t7 I7 => ⟨_, _, I7, q6⟩
      | cont => obtain ⟨τ6, G6, I6, q6⟩ := r; exact off I6 fun t7 I7 => ⟨_, _, I7, q6⟩
/-- try: body, then clauses of any sort -/
theorem ps_tryAll {body : List Stmt} {e0 : ExceptHandler} {es : List ExceptHandler} {l : List (Value × Option Nat × Suite)} {pos : Pos} {tb : WX → TS} (stk : X.stack = X.env :: X.outer) (fr : X.env.frame = some X.env.locals) (nd : X.N.Nodup) (tk : Takes X V)
    (hb : ∀ (W : WX) (pn : List (Addr × Obj)) (xe : Value → Shared → Prop), Takes (X.tr pn xe) W → PassesOwn (model X.prog X.w) X.A X.env xe → PSs (X.tr pn xe) body (tb W))
    (cl : Clauses X (e0 :: es) l) : PS X (.Try body (e0 :: es) [] [] pos) (fun D τ G => tb (wishes X.K V D l) D τ G) := by
  refine ⟨fun pins s τ G D I q => ?_⟩
  have ok := I.ok
  have frs_ : X.A.frames = some (X.env :: X.outer) := by rw [ok.frames, stk]
  refine wpAny_Try_except ?_
  refine wpAny_mono ((hb (wishes X.K V D l) (X.pn ++ pins) (fun e s₁ => wpAny (model X.prog X.w) X.A (noteFrame e X.env)
      (fun _ s₂ => wpAny (model X.prog X.w) X.A (setFlight e none) (fun _ s₃ => wpAny (model X.prog X.w) X.A (handleBy e X.env (e0 :: es)) (SP X pins D) X.xe s₃) X.xe s₂) X.xe s₁) (fun u t xx => ?_) PassesOwn.looking).run [] s τ G D (I.toTry _) q)
    (fun f t r => ?_) (fun _ _ z => z)
  · obtain ⟨a, B, sI, pn2, τ2, G2, cls, d, rfl, J0, nb, up, sky, na, os, ag, w⟩ := xx
    have J : Inv X pins τ2 G2 sI := J0.ofTry ok
    have sky2 : Sky B (X.env :: X.outer) a (Zc cls d) X.env.locals t.heap := by rw [← stk]; exact sky
    show wpAny (model X.prog X.w) X.A (noteFrame (.ref a) X.env) _ _ _
    refine Sky.land Zc.steady frs_ fr sky2 fun hp fl up2 => ?_
    exact (Held.mk ok nd stk fr J nb na os ag : Held X pins B a cls d τ2 G2 sI t).go tk fl (up.trans up2) cl w
  · cases f with
    | ret v =>
      obtain ⟨v6, τ6, G6, I6, r6, q6⟩ := r
      exact ⟨v6, τ6, G6, I6.ofTry ok, r6, q6⟩
    | next => obtain ⟨τ6, G6, I6, q6⟩ := r; exact wpAny_execs_nil ⟨τ6, G6, I6.ofTry ok, q6⟩
    | brk => obtain ⟨τ6, G6, I6, q6⟩ := r; exact ⟨τ6, G6, I6.ofTry ok, q6⟩
    | cont => obtain ⟨τ6, G6, I6, q6⟩ := r; exact ⟨τ6, G6, I6.ofTry ok, q6⟩
end
end Mir
end

/-! MirExc -/
section
set_option Elab.async false
set_option linter.all false
set_option maxRecDepth 100000
/-! MirExc: own exceptions with fields: raised, caught, their fields. -/
namespace Mir
open PySem L2

section
variable {X : Cx} {xc : Xc}
/-! ### an __init__ that keeps its arguments -/
/-- what the __init__ leaves -/
def exSp (C : Addr) (ks : List String) : Sp := fun vs H Q _ => ∃ (a : Addr) (ys : List V), vs = .ref a :: ys ∧ ys.length = ks.length ∧ H a = some (exo a C none) ∧
  ∀ (dx : Addr) (H2 : Hp), H dx = none → dx ≠ a → H2 a = some (exo a C (some dx)) → H2 dx = some (exd dx ((ks.map nm).zip ys).reverse) → (∀ b, b ≠ a → b ≠ dx → H2 b = H b) → Q .non H2
theorem ex1_ok {P : Program} {w : World} {K : PySem.W.Frag} {mg : Str → Option Value} {base : Heap} {qual : Str} {st : Stmt} {fI C : Addr} {fd : FuncData} {k1 s1 p1 : String} {q1 q2 q3 q4 : Pos} (F : Fun K "__init__" qual st fI fd) (T : OexC K C) (S : FnScope [nm s1, nm p1] [nm s1, nm p1] (defScope st))
    (n1 : PySem.W.findIn K (.ref C) (nm k1) = some none) (hb : defBody st = [.Assign [.Attribute (.Name (nm s1) q1) (nm k1) q2] (.Name (nm p1) q3) q4]) (v1 : (nm s1 == ("__debug__" : Str)) = false ∧ (nm s1 == ("__classdict__" : Str)) = false) (v2 : (nm p1 == ("__debug__" : Str)) = false ∧ (nm p1 == ("__classdict__" : Str)) = false)
    (hs : ∀ X : Cx, swapsWith (.Name (nm p1) q3) (some (.Attribute (.Name (nm s1) q1) (nm k1) q2)) q4.line X.env = pure false) :
    FnOk P w K mg base (L2.CX P w) 1 fI fd [nm s1, nm p1] (exSp C [k1]) := by
  refine F.okX S (fun vs H Q E h => ?_) fun cdv A outer s H vs Q E hr h => ?_
  · obtain ⟨a, ys, rfl, hl, _⟩ := h
    show ys.length + 1 = 2
    rw [hl]; rfl
  obtain ⟨a, ys, rfl, hl, ha, q⟩ := h
  match ys, hl with
  | [y], _ =>
    rw [hb]
    refine ⟨_, pss_one (ps_ost (pe_var (i := 0) rfl (S.par _ List.mem_cons_self |>.elim .inl fun h => .inr (.inl h)) v1.1 v1.2) (pe_var (i := 1) rfl (S.par _ (List.mem_cons_of_mem _ List.mem_cons_self) |>.elim .inl fun h => .inr (.inl h)) v2.1 v2.2) (hs _)), ?_⟩
    refine ⟨y, rfl, .ref a, rfl, a, C, rfl, T, n1, .inl ⟨ha, fun dx hdx hne => q dx _ hdx hne upd_same ?_ fun b h1 h2 => ?_⟩⟩
    · rw [upd_ne hne, upd_same]; rfl
    · rw [upd_ne h1, upd_ne h2]
theorem ex2_ok {P : Program} {w : World} {K : PySem.W.Frag} {mg : Str → Option Value} {base : Heap} {qual : Str} {st : Stmt} {fI C : Addr} {fd : FuncData} {k1 k2 s1 p1 p2 : String} {q1 q2 q3 q4 r1 r2 r3 r4 : Pos} (F : Fun K "__init__" qual st fI fd) (T : OexC K C) (S : FnScope [nm s1, nm p1, nm p2] [nm s1, nm p1, nm p2] (defScope st))
    (n1 : PySem.W.findIn K (.ref C) (nm k1) = some none) (n2 : PySem.W.findIn K (.ref C) (nm k2) = some none)
    (hb : defBody st = [.Assign [.Attribute (.Name (nm s1) q1) (nm k1) q2] (.Name (nm p1) q3) q4, .Assign [.Attribute (.Name (nm s1) r1) (nm k2) r2] (.Name (nm p2) r3) r4])
    (v1 : (nm s1 == ("__debug__" : Str)) = false ∧ (nm s1 == ("__classdict__" : Str)) = false) (v2 : (nm p1 == ("__debug__" : Str)) = false ∧ (nm p1 == ("__classdict__" : Str)) = false) (v3 : (nm p2 == ("__debug__" : Str)) = false ∧ (nm p2 == ("__classdict__" : Str)) = false)
    (hs : ∀ X : Cx, swapsWith (.Name (nm p1) q3) (some (.Attribute (.Name (nm s1) q1) (nm k1) q2)) q4.line X.env = pure false) (hs2 : ∀ X : Cx, swapsWith (.Name (nm p2) r3) (some (.Attribute (.Name (nm s1) r1) (nm k2) r2)) r4.line X.env = pure false) :
    FnOk P w K mg base (L2.CX P w) 1 fI fd [nm s1, nm p1, nm p2] (exSp C [k1, k2]) := by
  refine F.okX S (fun vs H Q E h => ?_) fun cdv A outer s H vs Q E hr h => ?_
  · obtain ⟨a, ys, rfl, hl, _⟩ := h
    show ys.length + 1 = 3
    rw [hl]; rfl
  obtain ⟨a, ys, rfl, hl, ha, q⟩ := h
  match ys, hl with
  | [y, z], _ =>
    rw [hb]
    have l1 : Vis (defScope st) (nm s1) := S.par _ List.mem_cons_self |>.elim .inl fun h => .inr (.inl h)
    have l2 : Vis (defScope st) (nm p1) := S.par _ (List.mem_cons_of_mem _ List.mem_cons_self) |>.elim .inl fun h => .inr (.inl h)
    have l3 : Vis (defScope st) (nm p2) := S.par _ (List.mem_cons_of_mem _ (List.mem_cons_of_mem _ List.mem_cons_self)) |>.elim .inl fun h => .inr (.inl h)
    refine ⟨_, pss_cons (ps_ost (pe_var (i := 0) rfl l1 v1.1 v1.2) (pe_var (i := 1) rfl l2 v2.1 v2.2) (hs _)) (pss_one (ps_ost (pe_var (i := 0) rfl l1 v1.1 v1.2) (pe_var (i := 2) rfl l3 v3.1 v3.2) (hs2 _))), ?_⟩
    refine ⟨y, rfl, .ref a, rfl, a, C, rfl, T, n1, .inl ⟨ha, fun dx hdx hne => ⟨z, rfl, .ref a, rfl, a, C, rfl, T, n2, .inr ⟨dx, [(nm k1, y)], upd_same, ?_, (show (1 : Nat) ≤ 900 by decide), q dx _ hdx hne ?_ ?_ fun b h1 h2 => ?_⟩⟩⟩⟩
    · rw [upd_ne hne, upd_same]
    · rw [upd_ne (Ne.symm hne), upd_same]
    · rw [upd_same]; rfl
    · rw [upd_ne h2, upd_ne h1, upd_ne h2]
/-! ### raise -/
theorem RepF.append {K : PySem.W.Frag} {mg : Str → Option Value} {g : Gh} {fs fs' : List (String × D)} {fv fv' : List (Str × V)} (a : RepF K mg g fs fv) (b : RepF K mg g fs' fv') : RepF K mg g (fs ++ fs') (fv ++ fv') := by
  refine ⟨by simp [a.len, b.len], fun i p q e1 e2 => ?_, fun i p q e1 e2 => ?_⟩
  all_goals
    by_cases h : i < fs.length
    · rw [List.getElem?_append_left h] at e1
      rw [List.getElem?_append_left (by rw [a.len]; exact h)] at e2
      first | exact a.key i p q e1 e2 | exact a.at_ i p q e1 e2
    · rw [List.getElem?_append_right (by omega)] at e1
      rw [List.getElem?_append_right (by rw [a.len]; omega), a.len] at e2
      first | exact b.key _ p q e1 e2 | exact b.at_ _ p q e1 e2
theorem RepF.zip {K : PySem.W.Frag} {mg : Str → Option Value} {g : Gh} : ∀ {ks : List String} {xs : List D} {vs : List V}, Reps K mg g xs vs → xs.length = ks.length → RepF K mg g (ks.zip xs).reverse ((ks.map nm).zip vs).reverse
  | [], [], vs, r, _ => by rw [r.inv0]; exact RepF.nil
  | k :: ks, x :: xs, vs, r, h => by
    obtain ⟨v, r', rfl, rv, rr⟩ := r.inv
    have ih := RepF.zip (ks := ks) rr (by simpa using h)
    show RepF K mg g ((k, x) :: ks.zip xs).reverse ((nm k, v) :: (ks.map nm).zip r').reverse
    rw [List.reverse_cons, List.reverse_cons]
    exact ih.append (RepF.consF rv RepF.nil)
/-- an exception class that keeps its arguments -/
def ExcOk (P : Program) (w : World) (K : PySem.W.Frag) (mg : Str → Option Value) (base : Heap) (c : String) (ks : List String) : Prop := ∃ C fI fd ps, mg (nm c) = some (.ref C) ∧ OexC K C ∧ PySem.W.findIn K (.ref C) "__init__" = some (some (.ref fI)) ∧ PySem.W.typeIn K (.ref fI) = some (.type "function") ∧
  FnOk P w K mg base (L2.CX P w) 1 fI fd ps (exSp C ks) ∧ Binds K fd ps []
theorem rs_raise {c : String} {ks : List String} {e : Expr} {es : List Expr} {p pos pos2 : Pos} {fa : SA} (T : ExcOk X.prog X.w X.K X.mg X.base c ks) (hr : Room 2 X.A) (hg : Gl X (nm c)) (ha : RA X xc (e :: es) fa) (hk : ks.length ≤ 1000 := by decide) (hc : X.calm = true := by rfl)
    (hdb : (nm c == ("__debug__" : Str)) = false := by decide +kernel) (he : starEach (e :: es) X.env = (false, eval e X.env) :: starEach es X.env := by rfl) (hpl : (backTo pos (starEach es X.env)).any (·.1) = false := by rfl) :
    RS X xc (.Raise (some (.Call (.Name (nm c) p) (e :: es) [] pos)) none pos2) (raiseM c ks fa) := fun W ok => by
  obtain ⟨C, fI, fd, ps, hm, O, iC, tI, F, b⟩ := T
  refine ps_imp ((ps_raise hc ok.tk (pmk_oex O iC tI F hr b .nil (fun _ _ _ _ _ _ _ z => by obtain ⟨_, _, _, _, _, _, _, _, _, _, _, _, z⟩ := z; exact z.elim) hg hm (ha W ok) hdb he hpl))) fun D σ H ⟨g, S0, e, S, rel, q⟩ => ⟨g, S0, e, S, rel, q.bind.imp (fun _ t => trivial) fun g1 xs e1 S1 σ1 H1 t1 l1 rel1 q1 vs rvs => ?_⟩
  subst t1
  by_cases hl : xs.length = ks.length
  · rw [if_pos hl] at q1
    refine ⟨by rw [rvs.len, hl]; exact hk, fun a hna => ⟨a, vs, by rw [List.append_nil], by rw [rvs.len, hl], upd_same, fun dx H2 hdx hne h1 h2 h3 => ⟨rfl, dx, _, h1, h2, by rw [upd_ne hne] at hdx; exact hdx, ?_⟩⟩⟩
    have hdx' : H1 dx = none := by rw [upd_ne hne] at hdx; exact hdx
    have eH : upd (del H2 a) dx (.xd ((ks.map nm).zip vs).reverse) = upd H1 dx (.xd ((ks.map nm).zip vs).reverse) := by
      funext b
      by_cases hb : b = dx
      · subst hb; rw [upd_same, upd_same]
      · rw [upd_ne hb, upd_ne hb]
        by_cases hba : b = a
        · subst hba; rw [del_same, hna]
        · rw [del_ne hba, h3 b hba hb, upd_ne hba]
    rw [eH]
    have x := Ext.frz (o := .xd ((ks.map nm).zip vs).reverse) rel1.st hdx'
    exact q1 _ _ _ _ _ trivial x.le (rel1.ext x) ⟨C, hm, rfl, .inr ⟨dx, _, rfl, by show upd g1.F dx _ dx = _; exact upd_same, (RepF.zip rvs hl).mono x.le⟩⟩
  · rw [if_neg hl] at q1
    exact q1.elim

/-! ### try -/
theorem Rel.pick {K : PySem.W.Frag} {mg : Str → Option Value} {g : Gh} {S0 : Sto} {e : Env} {S : Sto} {σ : L2.St} {H : Hp} (r : Rel K mg none g S0 e S σ H) {i : Nat} {a : Addr} {cls : Value} {d : Option Addr} {c : String} {fs : List (String × D)} (hi : i < e.length) (x : XRep K mg g c fs cls d) :
    Rel K mg (some (i, a, cls, d, c, fs)) g S0 (e.set i none) S (σ.set i (some (.ref a))) H := by
  refine ⟨r.st, r.le0, r.frm, by simp [r.el], fun j b h => ?_, fun j a' cls' d' c' fs' h => ?_⟩
  · by_cases hj : i = j
    · subst hj
      rw [List.getElem?_set_self hi] at h; cases h
    · rw [List.getElem?_set_ne hj] at h ⊢
      exact r.sl j b h
  · cases h
    exact ⟨List.getElem?_set_self (by rw [← r.el]; exact hi), x⟩
theorem Rel.drop {K : PySem.W.Frag} {mg : Str → Option Value} {g : Gh} {S0 : Sto} {e : Env} {S : Sto} {σ : L2.St} {H : Hp} (i : Nat) (r : Rel K mg xc g S0 e S σ H) : Rel K mg none g S0 (e.set i none) S (σ.set i none) H := by
  refine ⟨r.st, r.le0, r.frm, by simp [r.el], fun j b h => ?_, fun _ _ _ _ _ _ h => by cases h⟩
  by_cases hj : i = j
  · subst hj
    by_cases hi : i < e.length
    · rw [List.getElem?_set_self hi] at h; cases h
    · rw [List.getElem?_eq_none (by simpa using hi)] at h; cases h
  · rw [List.getElem?_set_ne hj] at h ⊢
    exact r.sl j b h
theorem pss_ex {ι : Type} {sts : List Stmt} {t : ι → TS} (h : ∀ i, PSs X sts (t i)) : PSs X sts (fun D σ H => ∃ i, t i D σ H) := ⟨fun pins s σ H D I ⟨i, q⟩ => (h i).run pins s σ H D I q⟩
/-- a table of classes, for one clause -/
def Tells (X : Cx) (cv : Value) (tb : List (String × Bool)) : Prop := ∀ c b C, tb.lookup c = some b → X.mg (nm c) = some (.ref C) → PySem.W.exmOne X.K (.ref C) cv = some b
theorem Tells.nil {cv : Value} : Tells X cv [] := fun c b C h _ => by simp at h
theorem Tells.cons {cv : Value} {c0 : String} {b0 : Bool} {C0 : Addr} {tb : List (String × Bool)} (hm : X.mg (nm c0) = some (.ref C0)) (he : PySem.W.exmOne X.K (.ref C0) cv = some b0) (T : Tells X cv tb) : Tells X cv ((c0, b0) :: tb) := fun c b C h hc => by
  by_cases e : c = c0
  · subst e
    rw [List.lookup_cons_self] at h
    cases h
    rw [hm] at hc; cases hc
    exact he
  · rw [List.lookup_cons, beq_eq_false_iff_ne.mpr e] at h
    exact T c b C h hc
inductive Catches (X : Cx) : List ExceptHandler → List Cl → Prop
  | nil : Catches X [] []
  | bare {x : Str} {cv : Value} {tb : List (String × Bool)} {u : String → List (String × D) → SS} {st : Stmt} {sts : List Stmt} {p q : Pos} {es : List ExceptHandler} {cs : List Cl} (nm_ : Names X x cv) (tl : Tells X cv tb)
      (su : ∀ (a : Addr) (oe : Obj) (pn : List (Addr × Obj)) (c : String) (fs : List (String × D)), RSs (X.suite a ((a, oe) :: pn)) none (st :: sts) (u c fs)) (more : Catches X es cs) : Catches X (.ExceptHandler (some (.Name x p)) none (st :: sts) q :: es) ((tb, none, u) :: cs)
  | named {x y : Str} {cv : Value} {i : Nat} {tb : List (String × Bool)} {u : String → List (String × D) → SS} {st : Stmt} {sts : List Stmt} {p q : Pos} {es : List ExceptHandler} {cs : List Cl} (nm_ : Names X x cv) (tl : Tells X cv tb) (at_ : X.N[i]? = some y) (own : X.env.kindOf y = some .local)
      (su : ∀ (a : Addr) (oe : Obj) (cls : Value) (d : Option Addr) (pn : List (Addr × Obj)) (c : String) (fs : List (String × D)), Zc cls d oe → (∃ vs, oe.data = .fields vs) → RSs (X.suite a ((a, oe) :: pn)) (some (i, a, cls, d, c, fs)) (st :: sts) (u c fs)) (more : Catches X es cs) :
      Catches X (.ExceptHandler (some (.Name x p)) (some y) (st :: sts) q :: es) ((tb, some i, u) :: cs)
theorem ok_suite {W : WX} (ok : Ok X W) (a : Addr) (pn : List (Addr × Obj)) : Ok (X.suite a pn) W0 := ⟨takes0, PassesOwn.never, ok.hu⟩
theorem Catches.get {es : List ExceptHandler} {cs : List Cl} (k : Catches X es cs) {W : WX} (ok : Ok X W) : ∃ l, Clauses X es l ∧ ∀ (D : Ends) (g : Gh) (S0 : Sto) (c : String) (fs : List (String × Mir.D)) (e : Env) (S : Sto) (σ : L2.St) (H : Hp) (cls : Value) (d : Option Addr),
    Rel X.K X.mg none g S0 e S σ H → XRep X.K X.mg g c fs cls d → Post X.K X.mg none W S0 (fun _ => True) g (catchM c fs S0.length e S cs) (EndOf X.K X.mg D) → wishes X.K W D l cls d σ H := by
  induction k with
  | nil => exact ⟨[], .nil, fun D g S0 c fs e S σ H cls d rel x q => q g σ H cls d trivial (.refl g) rel x⟩
  | @bare x cv tb u st sts p q es cs nm_ tl su more ih =>
    obtain ⟨l, h1, h2⟩ := ih
    refine ⟨(cv, none, fun a cls d D σ H => ∃ r : String × List (String × Mir.D), tSI X none W0 (u r.1 r.2) D σ H) :: l, .bare nm_ (fun a oe cls d pn z1 z2 => pss_ex fun r => su a oe pn r.1 r.2 W0 (ok_suite ok _ _)) h1, fun D g S0 c fs e S σ H cls d rel x q => ?_⟩
    obtain ⟨C, m1, rfl, m2⟩ := id x
    unfold catchM at q
    cases ht : tb.lookup c with
    | none => rw [ht] at q; exact q.elim
    | some b =>
      rw [ht] at q
      refine ⟨b, tl c b C ht m1, fun hb => ?_, fun hb a na => ?_⟩
      · subst hb
        exact h2 D g S0 c fs e S σ H _ d rel x q
      · subst hb
        refine ⟨(c, fs), g, S0, e, S, rel, ?_⟩
        have q' : Post X.K X.mg none W S0 (fun _ => True) g (suiteR none (u c fs) S0.length e S) (EndOf X.K X.mg D) := q
        unfold suiteR at q'
        dsimp only at q' ⊢
        revert q'
        cases u c fs S0.length e S with
        | ok f e' S' => exact fun q' => q'
        | exc c' fs' e' S' => exact fun q' => q'.elim
        | stuck => exact fun q' => q'
  | @named x y cv i tb u st sts p q es cs nm_ tl at_ own su more ih =>
    obtain ⟨l, h1, h2⟩ := ih
    refine ⟨(cv, some i, fun a cls d D σ H => ∃ r : String × List (String × Mir.D), tSI X (some (i, a, cls, d, r.1, r.2)) W0 (u r.1 r.2) D σ H) :: l, .named nm_ at_ own (fun a oe cls d pn z1 z2 => pss_ex fun r => su a oe cls d pn r.1 r.2 z1 z2 W0 (ok_suite ok _ _)) h1, fun D g S0 c fs e S σ H cls d rel x q => ?_⟩
    obtain ⟨C, m1, rfl, m2⟩ := id x
    unfold catchM at q
    cases ht : tb.lookup c with
    | none => rw [ht] at q; exact q.elim
    | some b =>
      rw [ht] at q
      refine ⟨b, tl c b C ht m1, fun hb => ?_, fun hb a na => ?_⟩
      · subst hb
        exact h2 D g S0 c fs e S σ H _ d rel x q
      · subst hb
        have q' : Post X.K X.mg none W S0 (fun _ => True) g (suiteR (some i) (u c fs) S0.length e S) (EndOf X.K X.mg D) := q
        unfold suiteR at q'
        dsimp only at q'
        by_cases hi : i < e.length
        · rw [if_pos hi] at q'
          refine ⟨(c, fs), g, S0, e.set i none, S, rel.pick hi x, ?_⟩
          revert q'
          cases u c fs S0.length (e.set i none) S with
          | ok f e' S' =>
            intro q' g2 σ2 H2 _ l2 rel2
            have q2 := q' g2 _ H2 trivial l2 (rel2.drop i)
            cases f with
            | nx => exact q2
            | bk => exact q2
            | ct => exact q2
            | ret d' => exact q2
          | exc c' fs' e' S' => exact fun q' => q'.elim
          | stuck => exact fun q' => q'
        · rw [if_neg hi] at q'
          exact q'.elim
theorem rs_try {body : List Stmt} {e0 : ExceptHandler} {es : List ExceptHandler} {cs : List Cl} {pos : Pos} {fb : SS} (stk : X.stack = X.env :: X.outer) (fr : X.env.frame = some X.env.locals) (nd : X.N.Nodup) (hb : ∀ (pn : List (Addr × Obj)) (xe : Value → Shared → Prop), RSs (X.tr pn xe) none body fb)
    (k : Catches X (e0 :: es) cs) : RS X none (.Try body (e0 :: es) [] [] pos) (tryM fb cs) := fun W ok => by
  obtain ⟨l, h1, h2⟩ := k.get ok
  refine ps_imp (ps_tryAll (tb := fun W' => tSI X none W' fb) stk fr nd ok.tk (fun W' pn xe tk po => hb pn xe W' ⟨tk, po, ok.hu⟩) h1) fun D σ H ⟨g, S0, e, S, rel, q⟩ => ⟨g, S0, e, S, rel, ?_⟩
  unfold tryM at q
  revert q
  cases fb S0.length e S with
  | ok f e' S' => exact fun q => q
  | stuck => exact fun q => q
  | exc c fs e' S' => exact fun q g' σ' H' cls d _ l' rel' x => h2 D g' S0 c fs e' S' σ' H' cls d rel' x (q.le l')
/-- e.f in a suite -/
theorem re_xf {a : Addr} {oe : Obj} {cls : Value} {d : Option Addr} {pn : List (Addr × Obj)} {c c0 f : String} {fs : List (String × D)} {i : Nat} {y : Str} {C : Addr} {py pos : Pos} (hm : X.mg (nm c0) = some (.ref C)) (T : XfC X.K C) (hno : PySem.W.findIn X.K (.ref C) (nm f) = some none) (hz : Zc cls d oe) (hf : ∃ vs, oe.data = .fields vs)
    (hN : X.N[i]? = some y := by rfl) (hv : Vis X.env.scope y := by first | exact Or.inl rfl | exact Or.inr (Or.inl rfl) | exact Or.inr (Or.inr rfl)) (hd : (y == ("__debug__" : Str)) = false := by decide) (hcd : (y == ("__classdict__" : Str)) = false := by decide)
    (hb : attributeBase (.Name y py) (nm f) X.env (eval (.Name y py) X.env) = eval (.Name y py) X.env := by rfl) : RE (X.suite a ((a, oe) :: pn)) (some (i, a, cls, d, c, fs)) (.Attribute (.Name y py) (nm f) pos) (xfM c fs c0 f) := fun W ok =>
  pe_imp (pe_xf T hno hz hf (pe_var (X := X.suite a ((a, oe) :: pn)) hN hv hd hcd) hb) fun σ H Q ⟨g, S0, e, S, rel, q⟩ => by
    obtain ⟨h1, C', m1, m2, m3⟩ := rel.cur _ _ _ _ _ _ rfl
    unfold xfM at q
    by_cases hc : c = c0
    · subst hc
      rw [if_pos rfl] at q
      have m1' : X.mg (nm c) = some (.ref C') := m1
      rw [hm] at m1'; cases m1'
      obtain ⟨z, hz', q2⟩ := Post.opt q
      rcases m3 with ⟨_, rfl⟩ | ⟨dd, fv, rfl, m4, m5⟩
      · simp at hz'
      · obtain ⟨v, hv', rv⟩ := m5.look f hz'
        exact ⟨_, h1, rfl, m2, dd, fv, v, rfl, rel.st.sub _ _ m4, hv', q2 g σ H rfl (.refl g) rel v rv⟩
    · rw [if_neg hc] at q
      exact q.elim
end
end Mir
end

/-! MirAug -/
section
set_option Elab.async false
set_option linter.all false
set_option maxRecDepth 100000
/-! MirAug: x += v, xs[i] += v, enumerate, all, bytes, (x := e) in a test. -/
namespace Mir
open PySem L2

section
variable {X : Cx} {xc : Xc}
theorem in_mul : InOp X .Mult (rI CMul fun i j => .int (i * j)) := fun pins s σ H x y u v Q I rx ry q => iop_mul pins s σ H x y u v Q I rx ry q
theorem ip_mulI {K : PySem.W.Frag} {mg : Str → Option Value} : IpL K mg mulI (rI CMul fun i j => .int (i * j)) := fun g H x y z v u Q hx hy hz q => by
  unfold mulI at hz
  split at hz
  · split at hz
    · rename_i i j hc
      cases hz; cases hx; cases hy
      unfold mulOk at hc
      have hc' := of_decide_eq_true hc
      rw [two64_eq] at hc'
      exact ⟨_, _, rfl, rfl, hc', q _ .int⟩
    · cases hz
  · cases hz
theorem rs_augX {i : Nat} {x : Str} {e : Expr} {op : Operator} {pos pos' : Pos} {f : SE} {fop : D → D → Option D} {rd : V → V → Hp → VK → Prop} (hN : X.N.Nodup) (hop : InOp X op rd) (hl : IpL X.K X.mg fop rd) (he : RE X xc e f) (hi : X.N[i]? = some x := by rfl) (hx : Loc X.env.scope x := by first | exact Or.inl rfl | exact Or.inr rfl)
    (hf : X.fn x = true ∨ X.env.scope.names.lookup x = some .local := by first | exact .inl rfl | exact .inr rfl | assumption) (hc : ∀ p, xc = some p → p.1 ≠ i := by first | exact (fun _ h => by cases h) | exact (fun _ h => by cases h; decide)) : RS X xc (.AugAssign (.Name x pos') op e pos) (augX i fop f) := fun W ok =>
  ps_imp (ps_aug (ti := rd) hN hi hx (he W ok) (fun pins s σ H x y v u Q I rx ry q => hop pins s σ H x y v u Q I rx ry q) hf) fun D σ H ⟨g, S0, e, S, rel, q⟩ => by
  unfold augX at q
  split at q
  · rename_i x0 h0
    obtain ⟨v0, h1, r1⟩ := rel.sl i x0 h0
    refine ⟨v0, h1, g, S0, e, S, rel, q.bind.imp (fun _ t => trivial) fun g1 d e1 S1 σ1 H1 t1 l1 rel1 q1 w rw' => ?_⟩
    subst t1
    obtain ⟨z, hz, q2⟩ := q1.bind.opt
    refine hl g1 H1 x0 d z v0 w _ (r1.mono l1) rw' hz fun w2 rz => ?_
    have q3 := q2 g1 σ1 H1 trivial (.refl g1) rel1
    by_cases hlt : i < e1.length
    · rw [if_pos hlt] at q3
      exact q3 g1 _ H1 trivial (.refl g1) (rel1.slot hlt rz hc)
    · rw [if_neg hlt] at q3
      exact q3.elim
  · exact q.elim
/-! ### all, bytes -/
theorem boolsOf_ok {K : PySem.W.Frag} {mg : Str → Option Value} {g : Gh} : ∀ {xs : List D} {vs : List V} {bs : List Bool}, Reps K mg g xs vs → boolsOf xs = some bs → vs = bs.map V.bl
  | [], vs, bs, r, h => by cases h; rw [r.inv0]; rfl
  | x :: xs, vs, bs, r, h => by
    obtain ⟨v, r', rfl, rv, rr⟩ := r.inv
    cases x with
    | bl b =>
      rw [boolsOf, Option.map_eq_some_iff] at h
      obtain ⟨bs', hb, rfl⟩ := h
      cases rv
      rw [boolsOf_ok rr hb]; rfl
    | _ => cases h
theorem cl_all : CallL X.K X.mg allS (rAll X.K) := fun g S H xs z vs Q r h hz q => by
  unfold allS at hz
  split at hz
  · rename_i x
    obtain ⟨v, r', rfl, rv, rr⟩ := h.inv
    rw [rr.inv0]
    have nx := Now.of r rv
    revert hz nx
    generalize deref S x = x'
    intro hz nx
    split at hz
    · rw [Option.map_eq_some_iff] at hz
      obtain ⟨bs, hb, rfl⟩ := hz
      obtain ⟨a, ws, rfl, h1, h2⟩ := nx.of_lst
      exact ⟨a, bs, rfl, by rw [← boolsOf_ok h2 hb]; exact SqL.of h1, q g H _ (.refl g H) .bl⟩
    · cases hz
  · cases hz
theorem re_all {e : Expr} {p pos : Pos} {f : SE} (hg : Gl X "all") (hm : X.mg "all" = none) (h : RE X xc e f) (hc : X.calm = true := by rfl) (he : starEach [e] X.env = (false, eval e X.env) :: starEach [] X.env := by rfl) : RE X xc (.Call (.Name "all" p) [e] [] pos) (fnA allS (consA f nilA)) :=
  re_callB (cr_all hc) cl_all hg hm (by decide +kernel) (ra_cons h ra_nil he) (by decide) (by decide) he

theorem b8Of_ok {K : PySem.W.Frag} {mg : Str → Option Value} {g : Gh} : ∀ {xs : List D} {vs : List V} {ns : List Nat}, Reps K mg g xs vs → b8Of xs = some ns → vs = (ns.map Int.ofNat).map V.int ∧ ∀ n ∈ ns, n < 256
  | [], vs, ns, r, h => by cases h; rw [r.inv0]; exact ⟨rfl, fun n hn => by simp at hn⟩
  | x :: xs, vs, ns, r, h => by
    obtain ⟨v, r', rfl, rv, rr⟩ := r.inv
    cases x with
    | int i =>
      rw [b8Of] at h
      split at h
      · rename_i hi
        rw [Option.map_eq_some_iff] at h
        obtain ⟨ns', hb, rfl⟩ := h
        cases rv
        obtain ⟨h1, h2⟩ := b8Of_ok rr hb
        refine ⟨?_, fun n hn => ?_⟩
        · rw [h1]
          have : (Int.ofNat i.toNat) = i := Int.toNat_of_nonneg hi.1
          simp only [List.map_cons, this]
        · rcases List.mem_cons.mp hn with rfl | hn
          · omega
          · exact h2 n hn
      · cases h
    | _ => cases h
theorem bArr_eq (ns : List Nat) : byteArr (ns.map Int.ofNat) = mkB ns := by
  unfold byteArr mkB
  rw [List.map_map]
  congr 1
theorem in8 {ns : List Nat} (h : ∀ n ∈ ns, n < 256) : B8 (ns.map Int.ofNat) := fun z hz => by
  obtain ⟨n, hn, rfl⟩ := List.mem_map.mp hz
  have := h n hn
  exact ⟨Int.natCast_nonneg n, by show (n : Int) < 256; omega⟩
def rByts (K : PySem.W.Frag) : List V → Hp → VK → Prop := fun xs H Q => (∃ p ns, xs = [.ref p] ∧ SqL K H p (ns.map V.int) ∧ B8 ns ∧ Q (.byt (byteArr ns)) H) ∨ (∃ p ns, xs = [.ref p] ∧ SqT K H p (ns.map V.int) ∧ B8 ns ∧ Q (.byt (byteArr ns)) H) ∨ ∃ b, xs = [.byt b] ∧ Q (.byt b) H
theorem call_byts (hc : X.calm = true) : CallR X (.type "bytes") (rByts X.K) := (call_bytes_list hc).or ((call_bytes_tup hc).or fun pins s σ H xs us Q I r h => by
  obtain ⟨b, rfl, q⟩ := h
  obtain ⟨u, rfl, t, rfl⟩ := vals1 r
  exact ZB.call_bytes_bytes ⟨V.byt b, H, I, ⟨t, rfl⟩, q⟩)
theorem cl_byts : CallL X.K X.mg bytS (rByts X.K) := fun g S H xs z vs Q r h hz q => by
  unfold bytS at hz
  split at hz
  · rename_i x
    obtain ⟨v, r', rfl, rv, rr⟩ := h.inv
    rw [rr.inv0]
    have nx := Now.of r rv
    revert hz nx
    generalize deref S x = x'
    intro hz nx
    split at hz
    · rw [Option.map_eq_some_iff] at hz
      obtain ⟨ns, hb, rfl⟩ := hz
      obtain ⟨a, ws, rfl, h1, h2⟩ := nx.of_lst
      obtain ⟨e, hn⟩ := b8Of_ok h2 hb
      subst e
      exact .inl ⟨a, _, rfl, SqL.of h1, in8 hn, by rw [bArr_eq]; exact q g H _ (.refl g H) (.byt hn)⟩
    · rw [Option.map_eq_some_iff] at hz
      obtain ⟨ns, hb, rfl⟩ := hz
      obtain ⟨a, ws, rfl, h1, h2⟩ := nx.of_frz r
      obtain ⟨e, hn⟩ := b8Of_ok h2 hb
      subst e
      exact .inl ⟨a, _, rfl, h1, in8 hn, by rw [bArr_eq]; exact q g H _ (.refl g H) (.byt hn)⟩
    · rw [Option.map_eq_some_iff] at hz
      obtain ⟨ns, hb, rfl⟩ := hz
      obtain ⟨a, ws, rfl, h1, h2⟩ := nx.of_tup r
      obtain ⟨e, hn⟩ := b8Of_ok h2 hb
      subst e
      exact .inr (.inl ⟨a, _, rfl, h1, in8 hn, by rw [bArr_eq]; exact q g H _ (.refl g H) (.byt hn)⟩)
    · cases hz
      obtain ⟨rfl, hb⟩ := nx.byt
      exact .inr (.inr ⟨_, rfl, q g H _ (.refl g H) (.byt hb)⟩)
    · cases hz
  · cases hz
theorem re_byts {e : Expr} {p pos : Pos} {f : SE} (hg : Gl X "bytes") (hm : X.mg "bytes" = none) (h : RE X xc e f) (hc : X.calm = true := by rfl) (he : starEach [e] X.env = (false, eval e X.env) :: starEach [] X.env := by rfl) : RE X xc (.Call (.Name "bytes" p) [e] [] pos) (fnA bytS (consA f nilA)) :=
  re_callTy (call_byts hc) cl_byts hg hm (by decide +kernel) (ra_cons h ra_nil he) (by decide) (by decide) he
/-! ### xs[i] op= v -/
theorem get_list : PGet X (rIxL X.K) := by
  intro pins s σ H o i ov iv Q I ro ri h
  obtain ⟨p, xs, k, z, rfl, rfl, hq, he, q⟩ := h
  cases ro
  obtain ⟨t, rfl⟩ := ri
  obtain ⟨its, r, pl, hz⟩ := I.list hq
  obtain ⟨j, h1, h2, h3, h4, h5⟩ := atI_get he
  obtain ⟨w, ew, rw'⟩ := r.get h2
  have hl := r.length
  have big := line63
  by_cases h0 : 0 ≤ k
  · have hj : k.toNat = j := by
      rw [seqIndex_of h0 h5] at h1
      exact Option.some.inj h1
    exact (wpAny_getItem_list pl.isList h0 (by omega) (by rw [hj]; simpa using ew) ⟨z, H, I, rw', q⟩)
  · have hj : (k + (its.toArray.size : Int)).toNat = j := by
      rw [seqIndex_neg (by omega) h4] at h1
      rw [List.size_toArray, ← hl]
      exact Option.some.inj h1
    exact (wpAny_getItem_list_neg pl.isList (by omega) (by rw [List.size_toArray]; omega) (by omega) (by rw [hj]; simpa using ew) ⟨z, H, I, rw', q⟩)

theorem rs_augS {o i e : Expr} {tpos pos : Pos} {op : Operator} {fo fi fv : SE} {fop : D → D → Option D} {rd : V → V → Hp → VK → Prop} (hop : InOp X op rd) (hl : IpL X.K X.mg fop rd) (ho : RE X xc o fo) (hi : RE X xc i fi) (he : RE X xc e fv)
    (ha : ∀ ov iv new, augStore i ov iv new = (do holding [new, ov, iv] (setItem ov iv new); release [new, ov, iv] []; pure .next) := by intros; rfl) : RS X xc (.AugAssign (.Subscript o i tpos) op e pos) (augS fop fo fi fv) := fun W ok =>
  ps_imp (ps_augS (tip := rd) (ho W ok) (hi W ok) get_list (he W ok) (fun pins s σ H x y v u Q I rx ry q => hop pins s σ H x y v u Q I rx ry q) set_list ha) fun D σ H ⟨g, S0, e, S, rel, q⟩ =>
  ⟨g, S0, e, S, rel, q.bind.imp (fun _ t => trivial) fun g1 x e1 S1 σ1 H1 t1 l1 rel1 q1 v rv => by
    subst t1
    exact ⟨g1, S0, e1, S1, rel1, q1.bind.imp (fun _ t => trivial) fun g2 y e2 S2 σ2 H2 t2 l2 rel2 q2 u ru => by
      subst t2
      cases x with
      | ref k =>
        cases y with
        | int j =>
          cases ru
          cases rv with
          | @ref _ a hm =>
            dsimp only at q2
            cases hS : S2[k]? with
            | none => rw [hS] at q2; exact q2.elim
            | some ob =>
              rw [hS] at q2
              cases ob with
              | lst w xs =>
                dsimp only at q2
                have hm2 := l2.m _ _ hm
                obtain ⟨hF, vs, h1, h2⟩ := rel2.st.ob _ _ _ hS hm2
                cases hc : (ixD xs.length j).bind fun p => xs[p]? with
                | none => rw [hc] at q2; exact q2.elim
                | some c =>
                  rw [hc] at q2
                  dsimp only at q2
                  obtain ⟨w0, hw0, rw0⟩ := h2.atI hc
                  refine ⟨a, vs, j, w0, rfl, rfl, SqL.of h1, hw0, g2, S0, e2, S2, rel2, q2.bind.imp (fun _ t => trivial) fun g3 d e3 S3 σ3 H3 t3 l3 rel3 q3 w' rw' => ?_⟩
                  subst t3
                  cases hz : fop c d with
                  | none => rw [hz] at q3; exact q3.elim
                  | some z =>
                    rw [hz] at q3
                    cases hS3 : S3[k]? with
                    | none => rw [hS3] at q3; exact q3.elim
                    | some ob3 =>
                      rw [hS3] at q3
                      cases ob3 with
                      | lst w3 ys =>
                        dsimp only at q3
                        have hm3 := l3.m _ _ hm2
                        obtain ⟨hF3, vs3, k1, k2⟩ := rel3.st.ob _ _ _ hS3 hm3
                        cases hp : ixD ys.length j with
                        | none => rw [hp] at q3; exact q3.elim
                        | some p =>
                          rw [hp] at q3
                          dsimp only at q3
                          split at q3
                          · rename_i hk
                            refine hl g3 H3 c d z w0 w' _ (rw0.mono l3) rw' hz fun wz rz => ⟨a, vs3, j, p, rfl, rfl, k1, by rw [k2.len, ← ixD_eq]; exact hp, ?_⟩
                            refine q3 g3 σ3 _ trivial (.refl g3) (rel3.write hS3 rfl hm3 ⟨hF3, _, upd_same, k2.set rz p⟩ ?_)
                            rcases mayPut_ok hk with hk | hk
                            · exact .inl hk
                            · exact .inr fun n hn => limL_set (hk n) hn
                          · exact q3.elim
                      | dead => exact q3.elim
                      | ins c' fs => exact q3.elim
              | dead => exact q2.elim
              | ins c fs => exact q2.elim
        | _ => exact q2.elim
      | _ => exact q2.elim⟩⟩
/-! ### for i, x in enumerate(l) -/
theorem enum_get : ∀ {ds : List D} {n i : Nat}, (enumFrom_ n ds)[i]? = (ds[i]?).map fun d => .tup [.int ((n + i : Nat) : Int), d]
  | [], n, i => by simp [enumFrom_]
  | d :: ds, n, 0 => by simp [enumFrom_]
  | d :: ds, n, i + 1 => by
    rw [enumFrom_, List.getElem?_cons_succ, enum_get, List.getElem?_cons_succ]
    have : n + 1 + i = n + (i + 1) := by omega
    rw [this]
theorem enum_len : ∀ {ds : List D} {n : Nat}, (enumFrom_ n ds).length = ds.length
  | [], n => rfl
  | d :: ds, n => by rw [enumFrom_, List.length_cons, enum_len, List.length_cons]
theorem walks_enum {K : PySem.W.Frag} {mg : Str → Option Value} {g : Gh} {a : Addr} {vs : List V} {xs : List D} (hs : SqL K g.F a vs) (hr : Reps K mg g xs vs) : Walks K mg (Ite K a) (enumFrom_ 0 xs) g := by
  refine ⟨fun i d g' S H h l r => ?_, fun i d g' S H x H' h l r y => ?_, fun g' S H l r => ?_⟩
  · rw [enum_get, Option.map_eq_some_iff] at h
    obtain ⟨d0, h0, _⟩ := h
    obtain ⟨v, hv, _⟩ := hr.get h0
    exact ⟨vs, v, sub_SqL r (ex_SqL l.F hs), hv⟩
  · rw [enum_get, Option.map_eq_some_iff] at h
    obtain ⟨d0, h0, rfl⟩ := h
    obtain ⟨v, hv, rv⟩ := hr.get h0
    obtain ⟨T, x0, rfl, hT, rfl, y⟩ := y
    have := y vs (sub_SqL r (ex_SqL l.F hs))
    rw [hv] at this; cases this
    have x := Ext.frz (o := .tup [.int (i : Nat), v]) r hT
    refine ⟨_, x, ?_⟩
    rw [Nat.zero_add]
    exact (Reps.cons .int (.cons ((rv.mono l).mono x.le) .nil)).tup (.inl (.inl (by show upd g'.F T _ T = _; exact upd_same)))
  · exact ⟨vs, sub_SqL r (ex_SqL l.F hs), by rw [enum_len, hr.len]; exact Nat.le_refl _⟩
/-! ### if (x := e) op k -/
theorem rs_ifWal {c : CmpOp} {i : Nat} {x : Str} {a k : Expr} {p q : List Stmt} {px pn pc pos : Pos} {fa fk : SE} {f : Sto → D → D → Option Bool} {fp fq : SS} (hN : X.N.Nodup) (hch : ChR X c f) (ha : RE X xc a fa) (hk : RE X xc k fk) (hp : RSs X xc p fp) (hq : RSs X xc q fq) (hm : behindInMarks c k = false) (hi : X.N[i]? = some x := by rfl) (hx : Loc X.env.scope x := by first | exact Or.inl rfl | exact Or.inr rfl)
    (hf : X.fn x = true ∨ X.env.scope.names.lookup x = some .local := by first | exact .inl rfl | exact .inr rfl | assumption) (hc : ∀ p, xc = some p → p.1 ≠ i := by first | exact (fun _ h => by cases h) | exact (fun _ h => by cases h; decide)) :
    RS X xc (.If (.Compare (.NamedExpr (.Name x px) a pn) [c] [k] pc) p q pos) (ifM (walT i f fa fk) fp fq) := fun W ok => by
  obtain ⟨r, hr, hb⟩ := hch
  refine ps_imp (ps_ifW (ptw_cmp hr (pew_named hN hi hx (pew_of (ha W ok)) hf) (hk W ok) hm) (hp W ok) (hq W ok)) fun D σ H ⟨g, S0, e, S, rel, q0⟩ => ?_
  refine ⟨g, S0, e, S, rel, (Post.bind (Post.bind q0)).imp (fun _ t => trivial) fun g1 d e1 S1 σ1 H1 t1 l1 rel1 q1 v rv => ?_⟩
  subst t1
  by_cases hlt : i < e1.length
  · rw [if_pos hlt] at q1
    have rel1' := rel1.slot hlt rv hc
    refine ⟨g1, S0, _, S1, rel1', q1.bind.imp (fun _ t => trivial) fun g2 y e2 S2 σ2 H2 t2 l2 rel2 q3 u ru => ?_⟩
    subst t2
    obtain ⟨b, hb', q4⟩ := q3.opt
    refine hb g2 S2 H2 d y b v u _ rel2.st (rv.mono l2) ru hb' ⟨b, rfl, ?_⟩
    have q5 := q4 g2 _ H2 trivial (.refl g2) rel2
    cases b with
    | true => rw [if_pos rfl] at q5; dsimp only; rw [if_pos rfl]; exact ⟨g2, S0, e2, S2, rel2, q5⟩
    | false => rw [if_neg Bool.false_ne_true] at q5; dsimp only; rw [if_neg Bool.false_ne_true]; exact ⟨g2, S0, e2, S2, rel2, q5⟩
  · rw [if_neg hlt] at q1
    exact q1.elim
end
end Mir
end

/-! MirSm -/
section
set_option Elab.async false
set_option linter.all false
set_option maxRecDepth 100000
/-! MirSm: C.m(..), m a staticmethod of C. -/
namespace Mir
open PySem L2
/-- C.m is a staticmethod: its record at p, its def at g -/
structure SMet (K : PySem.W.Frag) (C : Addr) (mc : Value) (m : Str) (p g : Addr) : Prop where
  rd : ClX.CRead K C mc
  at_ : PySem.W.findCls K (.ref C) mc m = some (.get (.builtin "staticmethod.__get__") (.ref p) .none (.ref C))
  rc : ∃ rest, PySem.W.recIn K p "staticmethod" = some (.ref g :: rest)
  kp : PySem.W.keepIn K (.ref g) = true
/-- a staticmethod with its meaning -/
def SmOk (P : Program) (w : World) (K : PySem.W.Frag) (mg : Str → Option Value) (base : Heap) (c m : String) (k lvl : Nat) (f : SF) : Prop :=
  ∃ C mc p g fd ps, mg (nm c) = some (.ref C) ∧ SMet K C mc (nm m) p g ∧ FnOk P w K mg base (L2.CX P w) lvl g fd ps (spI K mg k id f) ∧ Binds K fd ps []
section
variable {X : Cx} {xc : Xc}
theorem re_static {c m : String} {e : Expr} {es : List Expr} {p1 apos pos : Pos} {k lvl : Nat} {f : SF} {fs : SA} {pl : Sem Bool} (T : SmOk X.prog X.w X.K X.mg X.base c m k lvl f) (hr : Room lvl X.A) (hg : Gl X (nm c)) (ha : RA X xc (e :: es) fs)
    (hdb : (nm c == ("__debug__" : Str)) = false := by decide +kernel) (hst : starEach (e :: es) X.env = (false, eval e X.env) :: starEach es X.env := by rfl) (hpl : (backTo pos (starEach es X.env)).any (·.1) = false := by rfl)
    (ht : eval (.Call (.Attribute (.Name (nm c) p1) (nm m) apos) (e :: es) [] pos) X.env = (do
      let ov ← eval (.Name (nm c) p1) X.env
      standAt apos.atName
      let (f, first) ← holding [ov] (getMethod ov (nm m) pl)
      callWith pos f first (backTo pos (starEach (e :: es) X.env)) (backToKw pos (keywordEach [] X.env))) := by rfl) : RE X xc (.Call (.Attribute (.Name (nm c) p1) (nm m) apos) (e :: es) [] pos) (callM f k fs) := fun W ok => by
  obtain ⟨C, mc, p, g0, fd, ps, hm, M, F, b⟩ := T
  obtain ⟨rest, hp⟩ := M.rc
  refine ⟨fun pins s σ H Q I ⟨g, S0, en, S, rel, q⟩ => ?_⟩
  refine PySem.W.methodCall_KW (pl := pl) (thn ((pe_glob hg hm (show RelV (.ref C) (.ref C) from rfl) hdb).run pins s σ H (fun x H1 => x = V.ref C ∧ H1 = H) I ⟨rfl, rfl⟩) fun u s1 ⟨x, H1, I1, rx, ex, eh⟩ => ?_) ht
  subst ex
  subst eh
  obtain rfl : u = Value.ref C := rx
  refine PySem.W.method_cls I1.kIn M.rd.ga (PySem.W.cls_bind I1.kIn M.rd.rd M.at_ (wpAny_call (PySem.W.sm_get (s := { s1 with toks := s1.toks + 1 }) I1.kIn hp (PySem.W.handed_on rfl ?_))))
  have I2 : Inv X pins σ H1 { s1 with toks := s1.toks + 1 } := I1.tok _
  refine PySem.W.callWith_K (first := []) (h₀ := X.base) I2.ok.mod.kin M.kp (thn ((ha W ok).run pos pins _ σ H1 (fun vs H2 => spI X.K X.mg k id f vs H2 Q (WE W σ)) I2 ⟨g, S0, en, S, rel, q.bind.imp (fun _ t => t) fun g1 xs e1 S1 σ1 H1 t1 l1 rel1 q1 vs rvs => ?_⟩) fun us s2 ⟨vs, H2, I3, r, q2⟩ => ⟨I3.kIn, ?_⟩) hst hpl
  · subst t1
    by_cases hl : xs.length = k
    · rw [if_pos hl] at q1
      exact sp_of rel1.st (fun _ h => h) hl rvs (Post.out rel1 q1)
    · rw [if_neg hl] at q1
      exact q1.elim
  · exact run_fnS (us := us) (vs := vs) F hr b (passAt ok.tk _) I3 r q2
end
end Mir
end

/-! MirCls -/
section
set_option Elab.async false
set_option linter.all false
set_option maxRecDepth 100000
/-! MirCls: what is written of a class: its methods, properties, fields, its __init__, exception classes. -/
namespace Mir
open PySem L2
section
variable (K : PySem.W.Frag) (mg : Str → Option Value)
def MetT (c m q : String) (st : Stmt) : Prop := ∃ C f fd, mg (nm c) = some (.ref C) ∧ Cls K C ∧ Meth K C (nm m) f ∧ Fun K (nm m) (nm q) st f fd
def InitT (c q : String) (st : Stmt) : Prop := ∃ C f fd, mg (nm c) = some (.ref C) ∧ Mk K C f ∧ Fun K "__init__" (nm q) st f fd
def FldT (f c : String) : Prop := ∃ C, mg (nm c) = some (.ref C) ∧ Cls K C ∧ NoAttr K C (nm f)
def PrpT (f c q : String) (st : Stmt) : Prop := ∃ C p g fd, mg (nm c) = some (.ref C) ∧ Cls K C ∧ PropOf K C (nm f) p g ∧ Fun K (nm f) (nm q) st g fd
def SmT (c m q : String) (st : Stmt) : Prop := ∃ C mc p g fd, mg (nm c) = some (.ref C) ∧ SMet K C mc (nm m) p g ∧ Fun K (nm m) (nm q) st g fd
def ExT (c q : String) (st : Stmt) : Prop := ∃ C f fd, mg (nm c) = some (.ref C) ∧ OexC K C ∧ PySem.W.findIn K (.ref C) "__init__" = some (some (.ref f)) ∧ PySem.W.typeIn K (.ref f) = some (.type "function") ∧ Fun K "__init__" (nm q) st f fd
def XfT (c f : String) : Prop := ∃ C, mg (nm c) = some (.ref C) ∧ XfC K C ∧ PySem.W.findIn K (.ref C) (nm f) = some none
end
section
variable {P : Program} {w : World} {K : PySem.W.Frag} {mg : Str → Option Value} {base : Heap}
variable (P w K mg base)
def MetOk (c m : String) (k lvl : Nat) (mf : SF) : Prop := ∃ C f fd ps, mg (nm c) = some (.ref C) ∧ Cls K C ∧ Meth K C (nm m) f ∧ FnOk P w K mg base (L2.CX P w) lvl f fd ps (spI K mg (k + 1) id mf) ∧ Binds K fd ps []
def PropOk (f c : String) (lvl : Nat) (mf : SF) : Prop := ∃ C p g fd ps, mg (nm c) = some (.ref C) ∧ Cls K C ∧ PropOf K C (nm f) p g ∧ FnOk P w K mg base (L2.CX P w) lvl g fd ps (spI K mg 1 id mf) ∧ Binds K fd ps []
def InitOk (c : String) (k lvl : Nat) (mf : SF) : Prop := ∃ C f fd ps, mg (nm c) = some (.ref C) ∧ Mk K C f ∧ FnOk P w K mg base (L2.CX P w) lvl f fd ps (spI K mg (k + 1) List.dropLast mf) ∧ Binds K fd ps []
variable {P w K mg base}
theorem MetT.ok {c m q : String} {st : Stmt} {k lvl : Nat} {mf : SF} (D : MetT K mg c m q st) (ps : List Str) (h : ∀ f fd, Fun K (nm m) (nm q) st f fd → FnOk P w K mg base (L2.CX P w) lvl f fd ps (spI K mg (k + 1) id mf))
    (hb : ∀ (kV doc pm : Value) (an : Option Addr) (cdv ct : Value) (us : List Value), us.length = ps.length → bindArgs (PySem.W.fnOf (nm m) (nm q) (defArgs st) (defBody st) (defScope st) .none kV doc pm an cdv ct) ⟨us, []⟩ = pure (ps.zip us)) : MetOk P w K mg base c m k lvl mf := by
  obtain ⟨C, f, fd, h1, h2, h3, F⟩ := D
  exact ⟨C, f, fd, ps, h1, h2, h3, h f fd F, F.binds (ps := ps) hb⟩
theorem PrpT.ok {f c q : String} {st : Stmt} {lvl : Nat} {mf : SF} (D : PrpT K mg f c q st) (ps : List Str) (h : ∀ g fd, Fun K (nm f) (nm q) st g fd → FnOk P w K mg base (L2.CX P w) lvl g fd ps (spI K mg 1 id mf))
    (hb : ∀ (kV doc pm : Value) (an : Option Addr) (cdv ct : Value) (us : List Value), us.length = ps.length → bindArgs (PySem.W.fnOf (nm f) (nm q) (defArgs st) (defBody st) (defScope st) .none kV doc pm an cdv ct) ⟨us, []⟩ = pure (ps.zip us)) : PropOk P w K mg base f c lvl mf := by
  obtain ⟨C, p, g, fd, h1, h2, h3, F⟩ := D
  exact ⟨C, p, g, fd, ps, h1, h2, h3, h g fd F, F.binds (ps := ps) hb⟩
theorem InitT.ok {c q : String} {st : Stmt} {k lvl : Nat} {mf : SF} (D : InitT K mg c q st) (ps : List Str) (h : ∀ f fd, Fun K "__init__" (nm q) st f fd → FnOk P w K mg base (L2.CX P w) lvl f fd ps (spI K mg (k + 1) List.dropLast mf))
    (hb : ∀ (kV doc pm : Value) (an : Option Addr) (cdv ct : Value) (us : List Value), us.length = ps.length → bindArgs (PySem.W.fnOf "__init__" (nm q) (defArgs st) (defBody st) (defScope st) .none kV doc pm an cdv ct) ⟨us, []⟩ = pure (ps.zip us)) : InitOk P w K mg base c k lvl mf := by
  obtain ⟨C, f, fd, h1, h2, F⟩ := D
  exact ⟨C, f, fd, ps, h1, h2, h f fd F, F.binds (ps := ps) hb⟩
theorem SmT.ok {c m q : String} {st : Stmt} {k lvl : Nat} {mf : SF} (D : SmT K mg c m q st) (ps : List Str) (h : ∀ f fd, Fun K (nm m) (nm q) st f fd → FnOk P w K mg base (L2.CX P w) lvl f fd ps (spI K mg k id mf))
    (hb : ∀ (kV doc pm : Value) (an : Option Addr) (cdv ct : Value) (us : List Value), us.length = ps.length → bindArgs (PySem.W.fnOf (nm m) (nm q) (defArgs st) (defBody st) (defScope st) .none kV doc pm an cdv ct) ⟨us, []⟩ = pure (ps.zip us)) : SmOk P w K mg base c m k lvl mf := by
  obtain ⟨C, mc, p, g, fd, h1, h2, F⟩ := D
  exact ⟨C, mc, p, g, fd, ps, h1, h2, h g fd F, F.binds (ps := ps) hb⟩
theorem ExT.ok {c q : String} {st : Stmt} {ks : List String} (D : ExT K mg c q st) (ps : List Str) (h : ∀ C f fd, OexC K C → mg (nm c) = some (.ref C) → Fun K "__init__" (nm q) st f fd → FnOk P w K mg base (L2.CX P w) 1 f fd ps (exSp C ks))
    (hb : ∀ (kV doc pm : Value) (an : Option Addr) (cdv ct : Value) (us : List Value), us.length = ps.length → bindArgs (PySem.W.fnOf "__init__" (nm q) (defArgs st) (defBody st) (defScope st) .none kV doc pm an cdv ct) ⟨us, []⟩ = pure (ps.zip us)) : ExcOk P w K mg base c ks := by
  obtain ⟨C, f, fd, h1, h2, h3, h4, F⟩ := D
  exact ⟨C, f, fd, ps, h1, h2, h3, h4, h C f fd h2 h1 F, F.binds (ps := ps) hb⟩
end
section
variable {X : Cx} {xc : Xc}
theorem MetOk.at_ {c m : String} {k lvl : Nat} {mf : SF} (M : MetOk X.prog X.w X.K X.mg X.base c m k lvl mf) (hr : Room lvl X.A) : MethOk X m c k mf := by
  obtain ⟨C, f, fd, ps, h1, h2, h3, F, b⟩ := M
  exact ⟨C, f, h1, h2, h3, fd, ps, lvl, F, b, hr⟩
theorem PropOk.at_ {f c : String} {lvl : Nat} {mf : SF} (M : PropOk X.prog X.w X.K X.mg X.base f c lvl mf) (hr : Room (lvl + 1) X.A) : PrpOk X f c mf := by
  obtain ⟨C, p, g, fd, ps, h1, h2, h3, F, b⟩ := M
  exact ⟨C, p, g, h1, h2, h3, fd, ps, lvl, F, b, hr⟩
theorem FldT.at_ {f c : String} (T : FldT X.K X.mg f c) : FldOk X f c := T
theorem re_newD {c : String} {e : Expr} {es : List Expr} {p pos : Pos} {k lvl : Nat} {fz : Bool} {init : SF} {fs : SA} (T : InitOk X.prog X.w X.K X.mg X.base c k lvl init) (hr : Room (lvl + 1) X.A) (hg : Gl X (nm c)) (ha : RA X xc (e :: es) fs)
    (hdb : (nm c == ("__debug__" : Str)) = false := by decide +kernel) (he : starEach (e :: es) X.env = (false, eval e X.env) :: starEach es X.env := by rfl) (hpl : (backTo pos (starEach es X.env)).any (·.1) = false := by rfl) :
    RE X xc (.Call (.Name (nm c) p) (e :: es) [] pos) (newM c k fz init fs) := by
  obtain ⟨C, f, fd, ps, h1, h2, F, b⟩ := T
  exact re_new h2 ⟨fd, ps, lvl, F, b, hr⟩ rfl hg h1 ha hdb he hpl
theorem XfT.no {K : PySem.W.Frag} {mg : Str → Option Value} {c f : String} {C : Addr} (T : XfT K mg c f) (hm : mg (nm c) = some (.ref C)) : PySem.W.findIn K (.ref C) (nm f) = some none := by
  obtain ⟨D, h1, _, h3⟩ := T
  rw [hm] at h1; cases h1
  exact h3
/-- exmOne of own classes -/
theorem exm_own {K : PySem.W.Frag} {C D : Addr} {b : Bool} (h1 : PySem.W.subIn K (.ref D) (.type "BaseException") = some true) (h2 : PySem.W.isClsIn K D = true) (h3 : PySem.W.typeIn K (.ref D) = some (.type "type")) (h4 : PySem.W.subIn K (.ref C) (.ref D) = some b) :
    PySem.W.exmOne K (.ref C) (.ref D) = some b := by
  have e1 : (PySem.W.subIn K (.ref D) (.type "BaseException") == some true) = true := by rw [h1]; rfl
  have e2 : ((PySem.W.clsIn K D).isSome && PySem.W.typeIn K (.ref D) == some (.type "type")) = true := by
    have k : (PySem.W.clsIn K D).isSome = true := h2
    rw [k, h3]; rfl
  unfold PySem.W.exmOne
  rw [if_pos e1]
  show (if ((PySem.W.clsIn K D).isSome && PySem.W.typeIn K (.ref D) == some (.type "type")) = true then PySem.W.subIn K (.ref C) (.ref D) else none) = some b
  rw [if_pos e2]
  exact h4
end
/-! ### isinstance(x, (list, tuple)) -/
theorem itt_list_tuple {X : Cx} (n : NoTy X) : ITbl X (fun t b => PySem.W.kitAny X.K t [.type "list", .type "tuple"] = some b) tyt_list_tuple := by
  obtain ⟨n1, n2, n3, n4, n5, n6, n7, n8⟩ := n
  exact .ty rfl n1 (.ty rfl n2 (.ty rfl n3 (.ty rfl n4 (.ty rfl n5 (.ty rfl n6 (.ty rfl n7 (.ty rfl n8 .nil)))))))
theorem re_isit_list_tuple {X : Cx} {xc : Xc} {e : Expr} {p pos p' q0 q1 : Pos} {k : Nat} {f : SE} (hg : Gl X "isinstance") (hm : X.mg "isinstance" = none) (nt : NoTy X) (hg0 : Gl X "list") (hm0 : X.mg "list" = none) (hg1 : Gl X "tuple") (hm1 : X.mg "tuple" = none) (h : RE X xc e f)
    (ha : starEach [.Name "list" q0, .Name "tuple" q1] X.env = [(false, eval (.Name "list" q0) X.env), (false, eval (.Name "tuple" q1) X.env)] := by rfl)
    (he : starEach [e, .Tuple [.Name "list" q0, .Name "tuple" q1] k p'] X.env = (false, eval e X.env) :: starEach [.Tuple [.Name "list" q0, .Name "tuple" q1] k p'] X.env := by rfl) (he2 : starEach [.Tuple [.Name "list" q0, .Name "tuple" q1] k p'] X.env = (false, eval (.Tuple [.Name "list" q0, .Name "tuple" q1] k p') X.env) :: starEach [] X.env := by rfl) (hpl : (backTo pos (starEach [.Tuple [.Name "list" q0, .Name "tuple" q1] k p'] X.env)).any (·.1) = false := by rfl) :
    RE X xc (.Call (.Name "isinstance" p) [e, .Tuple [.Name "list" q0, .Name "tuple" q1] k p'] [] pos) (boolM (isiM tyt_list_tuple f)) := re_isiT (cvs := [.ty "list", .ty "tuple"]) (us := [.type "list", .type "tuple"]) hg hm nt h (pa_cons (pe_bltn hg0 hm0 (by decide +kernel) (show RelV (.ty "list") (.type "list") from rfl)) (pa_cons (pe_bltn hg1 hm1 (by decide +kernel) (show RelV (.ty "tuple") (.type "tuple") from rfl)) pa_nil (by rfl)) (by rfl)) (.cons (.ty "list") (.cons (.ty "tuple") .nil)) (by rw [PySem.sizeLine_eq]; decide) (itt_list_tuple nt) he he2 hpl
end Mir
end

/-! MirRul -/
section
set_option Elab.async false
set_option linter.all false
set_option maxRecDepth 100000
/-! MirRul: list(bytes), enumerate of a tuple. -/
namespace Mir
open PySem L2

/-! ### enumerate(tuple) -/
theorem meets_enum1 {v : Value} {o : Obj} {H : Heap → Prop} (B : Begins v o H) :
    Meets (Builtin.«enumerate.__new__» ⟨[.type "enumerate", v], []⟩) (fun _ R s => H s.heap ∧
      R (.ok (.ret (.ref (s.heap.push o).objs.size))) { s with heap := (s.heap.push o).push { cls := .type "enumerate", data := .fields #[.none, .bool false, .ref s.heap.objs.size, rawInt 0, .none, .none] } }) :=
  .of_wp fun prog w A R s h => by
    obtain ⟨hp, g, d, tk, os⟩ := s; obtain ⟨h1, h⟩ := h
    have hsub := sub_enumerate
    have q1 : ∀ {A' : Around} {E : Value → Shared → Prop} {Q : Value → Shared → Prop}, Q (.ref hp.objs.size) ⟨hp.push o, g, d, tk, os⟩ → wpAny (model prog w) A' (pyIter v) Q E ⟨hp, g, d, tk, os⟩ :=
      fun q => B.iter prog w _ _ ⟨hp, g, d, tk, os⟩ _ h1 q
    wp_walk using q1
    refine wpAny_stack_any fun st => wpAny_pure ?_
    split
    · rename_i c _ _ _ _ _
      cases (c == Value.type "enumerate")
      · wp_walk using q1
        exact ⟨_, rfl, h⟩
      · wp_walk using q1
        exact ⟨_, rfl, h⟩
    · wp_walk using q1
      exact ⟨_, rfl, h⟩
theorem call_enum1 {prog : Program} {w : World} {A : Around} {E : Value → Shared → Prop} {s : Shared} {v : Value} {o : Obj} {H : Heap → Prop} {Q : Value → Shared → Prop} (B : Begins v o H) (h1 : H s.heap)
    (h : ∀ h', IsEnum h' (s.heap.objs.size + 1) s.heap.objs.size 0 .none → h'.get? s.heap.objs.size = some o → h'.objs.size = s.heap.objs.size + 2 →
      (∀ b o, s.heap.get? b = some o → h'.get? b = some o) → Q (.ref (s.heap.objs.size + 1)) { s with heap := h' }) :
    wpAny (model prog w) A (call (.type "enumerate") [v]) Q E s := by
  refine callType_new F.called_enumerate (by decide) (F.typeCall_enumerate_1 _) (F.newCall_enumerate_1 _) (fun obj => F.args_object_init_2 obj _) F.entry_enumerate_new
    (meets_enum1 B) ⟨h1, ?_⟩
  have hz : (s.heap.push o).objs.size = s.heap.objs.size + 1 := Heap.size_push ..
  show _ ∧ _
  rw [hz]
  have he : IsEnum ((s.heap.push o).push { cls := .type "enumerate", data := .fields #[.none, .bool false, .ref s.heap.objs.size, rawInt 0, .none, .none] }) (s.heap.objs.size + 1) s.heap.objs.size 0 .none := by
    have := Heap.get?_push_size (s.heap.push o) (o := { cls := .type "enumerate", data := .fields #[.none, .bool false, .ref s.heap.objs.size, rawInt 0, .none, .none] }) rfl
    rw [hz] at this; exact this
  refine ⟨⟨_, he, rfl⟩, h _ he (Heap.get?_push_of_some _ (Heap.get?_push_size _ B.free)) (by rw [Heap.size_push, hz]) fun b o x => Heap.get?_push_of_some _ (Heap.get?_push_of_some _ x)⟩
/-- the tuple at a, each item in a new pair -/
def IteT (K : PySem.W.Frag) (a : Addr) : It :=
  ⟨fun i H => ∃ (xs : List V) (x : V), SqT K H a xs ∧ xs[i]? = some x, fun i H v H' => ∃ T x, v = .ref T ∧ H T = none ∧ H' = upd H T (.tup [.int (i : Nat), x]) ∧ ∀ xs, SqT K H a xs → xs[i]? = some x, fun i H => ∃ xs : List V, SqT K H a xs ∧ xs.length ≤ i⟩
theorem turn_enumT {P : Program} {w : World} {K : PySem.W.Frag} {elts : List Expr} {kk : Nat} {tpos : Pos} (a e it : Addr) :
    Turn P w K (.Tuple elts kk tpos) (IteT K a) [e, it] e (fun i h => (∃ old, IsEnum h e it ((i : Nat) : Int) old) ∧ h.IsTupleIter it a i ∧ e ≠ it) where
  mem := by simp
  obj := fun i h st b hb => by
    obtain ⟨⟨old, he⟩, ⟨o, ho, hc, hd⟩, _⟩ := st
    have e' : b = e ∨ b = it := by simpa using hb
    rcases e' with z | z
    · rw [z]; exact ⟨_, he, fun v q => nomatch q⟩
    · rw [z]; exact ⟨o, ho, fun v q => by rw [hd] at q; cases q⟩
  keep := fun i h h' st k => let ⟨⟨old, he⟩, hi, hne⟩ := st; ⟨⟨old, k e (by simp) _ he⟩, hi.at fun o q => k it (by simp) o q, hne⟩
  item := by
    intro X hP hw hK hc i pins s σ H E I hf st hg
    subst hP hw hK
    obtain ⟨⟨old, he⟩, hit, hne⟩ := st
    obtain ⟨xs, x, hq, hx⟩ := hg
    obtain ⟨its, rv, p, hz⟩ := I.tuple hq
    obtain ⟨u, hu, ru⟩ := rv.get hx
    have hel : e < s.heap.objs.size := Heap.lt_size he
    have hil : it < s.heap.objs.size := by obtain ⟨_, q, _⟩ := hit; exact Heap.lt_size q
    have nai : a ≠ it := fun q => by
      obtain ⟨o, h1, h2, _⟩ := p
      obtain ⟨o', h3, h4, _⟩ := hit
      rw [q] at h1
      rw [h1] at h3; cases h3
      rw [h2] at h4; exact absurd h4 (by decide)
    have nea : e ≠ a := fun q => by
      obtain ⟨o, h1, h2, _⟩ := p
      rw [← q] at h1
      have he' := he
      unfold IsEnum at he'
      rw [h1] at he'; cases he'
      have h2' : Value.type "enumerate" = Value.type "tuple" := h2
      exact absurd h2' (by decide)
    have D := Draws.tuple (prog := X.prog) (w := X.w) (A := X.A.in1) (I.ok.hd hc) it a nai its.toArray
    have hlt : i < its.toArray.size := by
      have hl := rv.length
      have := (List.getElem?_eq_some_iff.mp hx).1
      rw [List.size_toArray]; omega
    refine wpAny_pyNext_enum_itemD D he ⟨hit, p⟩ hlt hne (by simp [hne, nea]) fun x' h' tk hx' ho hit' hT hsz hk => ?_
    have hu' : x' = u := by
      have q1 : its.toArray[i]? = some u := by simpa using hu
      rw [q1] at hx'; exact (Option.some.inj hx').symm
    subst hu'
    refine ⟨_, rfl, wpAny_letOwnedTupleGo_enum (s := { s with heap := h', toks := tk + 1 }) ho fun h'' he' sb => ?_⟩
    have hT2 : h''.get? s.heap.objs.size = some { cls := .type "tuple", data := .seq #[.int i tk, x'] } := (sb.2 _ (Nat.ne_of_gt hel)).trans hT
    have new : ObjOk X.prog X.w (upd H s.heap.objs.size (.tup [.int (i : Nat), x])) h'' s.heap.objs.size (.tup [.int (i : Nat), x]) :=
      ⟨by show 2 ≤ sizeLine; decide, [.int i tk, x'], .cons ⟨_, rfl⟩ (.cons ru .nil), ⟨_, hT2, rfl, _, rfl⟩⟩
    have I1 : Inv X pins σ (upd H s.heap.objs.size (.tup [.int (i : Nat), x])) { s with heap := h'', toks := tk + 1 } :=
      I.turnedNew (ch := [e, it]) (fun b ob hb q => (sb.2 b (fun z => hb (by simp [z]))).trans (hk b ob (fun z => hb (by simp [z])) (fun z => hb (by simp [z])) q)) hf (Nat.le_refl _) new
    refine ⟨.ref s.heap.objs.size, _, I1, rfl, ⟨_, x, rfl, I.hok.fresh (Nat.le_refl _), rfl, fun ys hy => by rw [I.tuple_inj hy hq]; exact hx⟩, ⟨⟨x', ?_⟩, hit'.1.at fun o q => (sb.2 it (Ne.symm hne)).trans q, hne⟩, fun b hb => ?_⟩
    · have e1 : ((i + 1 : Nat) : Int) = (i : Int) + 1 := by omega
      rw [e1]; exact he'
    · have hb' : b < s.heap.objs.size := by
        have e' : b = e ∨ b = it := by simpa using hb
        rcases e' with z | z
        · rw [z]; exact hel
        · rw [z]; exact hil
      rw [upd_ne (Nat.ne_of_lt hb')]
      exact (hf b hb).1
  done := by
    intro X hP hw hK hc i pins s σ H E I hf st hg
    subst hP hw hK
    obtain ⟨⟨old, he⟩, hit, hne⟩ := st
    obtain ⟨xs, hq, hx⟩ := hg
    obtain ⟨its, rv, p, hz⟩ := I.tuple hq
    obtain ⟨f0, f1, f2, f3, f4, f5⟩ := hf it (by simp)
    have hl := rv.length
    have hT : s.TypeIs (.ref e) "enumerate" := ⟨_, he, rfl⟩
    unfold pyNext
    refine wpAny_bind (wpAny_attempt (wpAny_callSpecial?_slot (name := Str.ofString "__next__") hT PySem.F.slot_enumerate_next
      (wpAny_call_entry PySem.F.slot_enumerate_next hT PySem.F.entry_enumerate_next ?_ (PySem.F.args_enumerate_next_1 _))))
    show wpAny _ _ (field (.ref e) 2 >>= _) _ _ _
    refine wpAny_bind (wpAny_field he rfl (x := .ref it) rfl ?_)
    refine wpAny_bind (wpAny_nextOf_tuple_end (I.ok.hd hc) hit p (by simp; omega) fun h' x he' hx' => ?_)
    obtain ⟨o, ho, hc'⟩ := hx'
    refine wpAny_bind (wpAny_isInstance (T := "StopIteration") (b := true) ⟨o, ho, hc'⟩ isSubtype_stop ?_)
    exact wpAny_pure ⟨rfl, I.turned (t' := s.toks) (fun b o hb q => he' b o hb q) f0 f1 f3 f4 f5⟩
  self := fun A i s Q E st h => let ⟨⟨_, he⟩, _⟩ := st; wpAny_pyIter_enum he h
theorem pi_enumT {X : Cx} {e : Expr} {ta : TA} {p pos tpos : Pos} {elts : List Expr} {kk : Nat} (hg : Gl X "enumerate") (hm : X.mg "enumerate" = none) (ha : PA X [e] ta) (hs : starEach [e] X.env = [(false, eval e X.env)] := by rfl) :
    PI X (.Tuple elts kk tpos) (.Call (.Name "enumerate" p) [e] [] pos) (fun σ H R => ta σ H fun vs H1 => ∃ a xs, vs = [.ref a] ∧ ((SqL X.K H1 a xs ∧ R (Ite X.K a) H1) ∨ (SqT X.K H1 a xs ∧ R (IteT X.K a) H1))) := by
  refine ⟨fun pins s σ H R I h => ?_⟩
  refine PyProof.Rows.Call_ (ld_blt I hg hm (show bootBuiltins "enumerate" = some (.type "enumerate") by decide +kernel) (PyProof.Rows.callWith_type1 (thn (ha.run pos pins s σ H _ I h) fun us s1 ⟨vs, H1, I1, r1, q1⟩ => ?_) hs rfl))
  obtain ⟨a, xs, ex, q⟩ := q1
  subst ex
  cases r1 with
  | cons r rr =>
    cases rr
    cases r
    have hq : ∀ h' : Heap, ∀ b, b ∈ [s1.heap.objs.size + 1, s1.heap.objs.size] → FpOk X pins H1 b := fun h' b hb => by
      have e' : b = s1.heap.objs.size + 1 ∨ b = s1.heap.objs.size := by simpa using hb
      have hle : s1.heap.objs.size ≤ b := by
        rcases e' with z | z
        · rw [z]; exact Nat.le_add_right _ _
        · rw [z]; exact Nat.le_refl _
      exact I1.fpOk hle (I1.hok.fresh hle)
    rcases q with ⟨hq1, q⟩ | ⟨hq1, q⟩
    · obtain ⟨its, rv, p', hz⟩ := I1.list hq1
      refine PySem.call_enumerate_list p'.isList fun h' he hit hsz hk => wpAny_pyIter_enum he ?_
      have I2 : Inv X pins σ H1 { s1 with heap := h' } := I1.kept (t' := s1.toks) hk
      exact ⟨s1.heap.objs.size + 1, [s1.heap.objs.size + 1, s1.heap.objs.size], _, _, H1, rfl, I2, turn_enum a (s1.heap.objs.size + 1) s1.heap.objs.size, ⟨⟨.none, he⟩, hit, Nat.succ_ne_self _⟩, hq h', q⟩
    · obtain ⟨its, rv, p', hz⟩ := I1.tuple hq1
      refine call_enum1 (begins_tuple a its.toArray) p' fun h' he hit hsz hk => wpAny_pyIter_enum he ?_
      have I2 : Inv X pins σ H1 { s1 with heap := h' } := I1.kept (t' := s1.toks) hk
      exact ⟨s1.heap.objs.size + 1, [s1.heap.objs.size + 1, s1.heap.objs.size], _, _, H1, rfl, I2, turn_enumT a (s1.heap.objs.size + 1) s1.heap.objs.size, ⟨⟨.none, he⟩, ⟨_, hit, rfl, rfl⟩, Nat.succ_ne_self _⟩, hq h', q⟩
theorem walks_enumT {K : PySem.W.Frag} {mg : Str → Option Value} {g : Gh} {a : Addr} {vs : List V} {xs : List D} (hs : SqT K g.F a vs) (hr : Reps K mg g xs vs) : Walks K mg (IteT K a) (enumFrom_ 0 xs) g := by
  refine ⟨fun i d g' S H h l r => ?_, fun i d g' S H x H' h l r y => ?_, fun g' S H l r => ?_⟩
  · rw [enum_get, Option.map_eq_some_iff] at h
    obtain ⟨d0, h0, _⟩ := h
    obtain ⟨v, hv, _⟩ := hr.get h0
    exact ⟨vs, v, sub_SqT r (ex_SqT l.F hs), hv⟩
  · rw [enum_get, Option.map_eq_some_iff] at h
    obtain ⟨d0, h0, rfl⟩ := h
    obtain ⟨v, hv, rv⟩ := hr.get h0
    obtain ⟨T, x0, rfl, hT, rfl, y⟩ := y
    have := y vs (sub_SqT r (ex_SqT l.F hs))
    rw [hv] at this; cases this
    have x := Ext.frz (o := .tup [.int (i : Nat), v]) r hT
    refine ⟨_, x, ?_⟩
    rw [Nat.zero_add]
    exact (Reps.cons .int (.cons ((rv.mono l).mono x.le) .nil)).tup (.inl (.inl (by show upd g'.F T _ T = _; exact upd_same)))
  · exact ⟨vs, sub_SqT r (ex_SqT l.F hs), by rw [enum_len, hr.len]; exact Nat.le_refl _⟩
section
variable {X : Cx} {xc : Xc}
theorem ri_enum {e : Expr} {p pos tpos : Pos} {elts : List Expr} {kk : Nat} {f : SE} (hg : Gl X "enumerate") (hm : X.mg "enumerate" = none) (h : RE X xc e f) (hs : starEach [e] X.env = [(false, eval e X.env)] := by rfl) : RI X xc (.Tuple elts kk tpos) (.Call (.Name "enumerate" p) [e] [] pos) (enumM f) := fun W ok =>
  pi_imp (pi_enumT hg hm (pa_cons (h W ok) pa_nil hs) hs) fun σ H R ⟨g, S0, e, S, rel, q⟩ =>
  ⟨g, S0, e, S, rel, q.bind.imp (fun _ t => t) fun g1 d e1 S1 σ1 H1 t1 l1 rel1 q1 v rv => by
    cases d with
    | lst xs =>
      obtain ⟨a, vs, rfl, h1, h2⟩ := Reps.of_lst rv
      have hs : SqL X.K g1.F a vs := SqL.of h1
      exact ⟨a, vs, rfl, .inl ⟨sub_SqL rel1.st hs, q1 g1 σ1 H1 t1 (.refl g1) rel1 _ (walks_enum hs h2)⟩⟩
    | frz xs =>
      obtain ⟨a, vs, rfl, h1, h2⟩ := Reps.of_frz rv
      exact ⟨a, vs, rfl, .inl ⟨sub_SqL rel1.st h1, q1 g1 σ1 H1 t1 (.refl g1) rel1 _ (walks_enum h1 h2)⟩⟩
    | tup xs =>
      obtain ⟨a, vs, rfl, h1, h2⟩ := Reps.of_tup rv
      exact ⟨a, vs, rfl, .inr ⟨sub_SqT rel1.st h1, q1 g1 σ1 H1 t1 (.refl g1) rel1 _ (walks_enumT h1 h2)⟩⟩
    | _ => exact q1.elim⟩
/-! ### list(x) -/
theorem reps_bytes {K : PySem.W.Frag} {mg : Str → Option Value} (g : Gh) {s : List Nat} (h : ∀ c ∈ s, c < 256) : Reps K mg g (s.map fun (c : Nat) => D.int (c : Int)) ((bi (mkB s)).map V.int) := by
  have e : bi (mkB s) = s.map Int.ofNat := by rw [← bArr_eq, bi_make (in8 h)]
  rw [e]
  clear e h
  induction s with
  | nil => exact .nil
  | cons c r ih => exact .cons .int ih
theorem rl_list {e : Expr} {p pos : Pos} {f : SE} (hg : Gl X "list") (hm : X.mg "list" = none) (h : RE X xc e f) (hc : X.calm = true := by rfl) (he : starEach [e] X.env = (false, eval e X.env) :: starEach [] X.env := by rfl) : RL X xc (.Call (.Name "list" p) [e] [] pos) (listA f) := fun W ok =>
  pe_imp (pe_callTy (call_list_of.or (call_r1 (rl_listB hc))) hg hm (by decide +kernel) (pa_cons (h W ok) pa_nil he) (by decide) (by decide) he rfl) fun σ H Q ⟨g, S0, en, S, rel, q⟩ =>
  ⟨g, S0, en, S, rel, q.bind.imp (fun _ t => t) fun g1 x e1 S1 σ1 H1 t1 l1 rel1 q1 v rv => by
    subst t1
    have nx := Now.of rel1.st rv
    revert q1 nx
    generalize deref S1 x = x'
    intro q1 nx
    cases x' with
    | lst xs =>
      obtain ⟨a, vs, rfl, h1, h2⟩ := nx.of_lst
      exact .inl ⟨a, vs, rfl, .inl (SqL.of h1), fun p hp => q1 g1 _ H1 rfl (.refl g1) rel1 p vs hp h2⟩
    | frz xs =>
      obtain ⟨a, vs, rfl, h1, h2⟩ := nx.of_frz rel1.st
      exact .inl ⟨a, vs, rfl, .inl h1, fun p hp => q1 g1 _ H1 rfl (.refl g1) rel1 p vs hp h2⟩
    | tup xs =>
      obtain ⟨a, vs, rfl, h1, h2⟩ := nx.of_tup rel1.st
      exact .inl ⟨a, vs, rfl, .inr h1, fun p hp => q1 g1 _ H1 rfl (.refl g1) rel1 p vs hp h2⟩
    | byt s =>
      obtain ⟨rfl, hb⟩ := nx.byt
      dsimp only at q1
      by_cases hl : s.length ≤ line
      · rw [if_pos hl] at q1
        refine .inr ⟨_, rfl, by show (mkB s).size ≤ 16777216; simpa [mkB, line] using hl, fun p hp => q1 g1 _ H1 rfl (.refl g1) rel1 p _ hp (reps_bytes g1 hb)⟩
      · rw [if_neg hl] at q1
        exact q1.elim
    | _ => exact q1.elim⟩
/-- a + b of lists, a new one -/
theorem rl_add {a b : Expr} {pos : Pos} {fa fb : SE} (ha : RE X xc a fa) (hb : RE X xc b fb) : RL X xc (.BinOp a .Add b pos) (addA fa fb) := fun W ok =>
  pe_imp (pe_op op_cat (ha W ok) (hb W ok)) fun σ H Q ⟨g, S0, e, S, rel, q⟩ =>
  ⟨g, S0, e, S, rel, q.bind.imp (fun _ t => t) fun g1 x e1 S1 σ1 H1 t1 l1 rel1 q1 v rv => by
    subst t1
    exact ⟨g1, S0, e1, S1, rel1, q1.bind.imp (fun _ t => t) fun g2 y e2 S2 σ2 H2 t2 l2 rel2 q2 u ru => by
      subst t2
      have nx := Now.of rel2.st (rv.mono l2)
      have ny := Now.of rel2.st ru
      revert q2 nx ny
      generalize deref S2 x = x'
      generalize deref S2 y = y'
      intro q2 nx ny
      split at q2
      · split at q2
        · rename_i hl
          obtain ⟨a', vs, rfl, h1, h2⟩ := nx.of_lst
          obtain ⟨b', us, rfl, h3, h4⟩ := ny.of_lst
          exact ⟨a', b', vs, us, rfl, rfl, h1, h3, by rw [h2.len, h4.len, ← line_eq]; exact hl, fun p hp => q2 g2 _ H2 rfl (.refl g2) rel2 p _ hp (h2.append h4)⟩
        · exact q2.elim
      · exact q2.elim⟩⟩
end
end Mir
end

/-! MirWord -/
section
set_option linter.all false
/-! MirWord: more words. -/
namespace Mir
/-- both are of the class c -/
def ownOf (c : String) (S : Sto) (x y : D) : Bool := match classOf S x, classOf S y with
  | some (c1, _), some (c2, _) => c1 == c && c2 == c
  | _, _ => false
def eqB (neg : Bool) (r : R D) (e : Env) : R Bool := match r with
  | .ok (.bl k) _ S' => .ok (if neg then !k else k) e S'
  | _ => .stuck
def eqR (neg : Bool) (c : String) (m : SF) (x y : D) (e : Env) (S : Sto) : R Bool := if ownOf c S x y = true then eqB neg (m [x, y] S) e else R.opt (if neg then neS S x y else eqS S x y) e S
/-- == and != where a class of the text has an own == -/
def eqTM (neg : Bool) (c : String) (m : SF) (a b : SE) : ST := fun bd e S => (a bd e S).bind fun x e S => (b bd e S).bind fun y e S => eqR neg c m x y e S
/-- isinstance(x, c): an own class -/
def tyC (c : String) : List (String × Bool) := [(c, true), ("NoneType", false), ("bool", false), ("int", false), ("str", false), ("bytes", false), ("list", false), ("tuple", false), ("dict", false)]
/-- t[lo:hi] of a tuple -/
def slcTS (x : D) (l u : Option Int) : Option D := match x with
  | .tup xs => some (.tup (cutL xs l u))
  | _ => none
def slcTM (a : SE) (lo hi : Option SE) : SE := fun b e S => (a b e S).bind fun x e S => (partM lo b e S).bind fun l e S => (partM hi b e S).bind fun u e S => R.opt (slcTS x l u) e S
/-- a, b = x, y -/
def parM (i j : Nat) (a : SA) : SS := fun b e S => (a b e S).bind fun xs e S => match xs with
  | [x, y] => if i < e.length ∧ j < e.length then .ok .nx ((e.set i (some x)).set j (some y)) S else .stuck
  | _ => .stuck
/-- *x of a list or tuple -/
def seqD : D → Option (List D)
  | .lst xs => some xs
  | .frz xs => some xs
  | .tup xs => some xs
  | _ => none
/-- [*a, ..] -/
def starA (a : SE) (r : SA) : SA := fun b e S => (a b e S).bind fun x e S => (R.opt (seqD (deref S x)) e S).bind fun xs e S => (r b e S).bind fun ys e S => .ok (xs ++ ys) e S
def intsOf : List D → Option (List Int)
  | [] => some []
  | .int i :: r => (intsOf r).map (i :: ·)
  | _ => none
/-- max(xs) of whole numbers -/
def maxS (S : Sto) (ds : List D) : Option D := match ds with
  | [x] => (match deref S x with
    | .lst xs => (match intsOf xs with
      | some (n :: r) => some (.int (r.foldl max n))
      | _ => none)
    | _ => none)
  | _ => none
end Mir
end

/-! MirEq -/
section
set_option Elab.async false
set_option linter.all false
set_option maxRecDepth 100000
/-! MirEq: == and != by an own __eq__. -/
namespace Mir
open PySem L2 PyProof.Rows

section
open PySem.W
variable {prog : Program} {w : World} {A : Around} {E : Value → Shared → Prop} {s : Shared} {K : PySem.W.Frag} {x C L f : Addr} {h₀ : Heap} {m : Str → Option Value} {ox : Obj} {od : Option Obj} {b tb : Value}
theorem ifBound_objNe {M : Model} {args : List Value} {Q : Option Value → Shared → Prop} (X : K.In s.heap) (I : InstAt s.heap x ox C od) (hs : findIn K (.ref C) "__ne__" = some (some (.builtin "object.__ne__")))
    (h : wpAny M A (call (.builtin "object.__ne__") (.ref x :: args)) (fun v => Q (some v)) E s) : wpAny M A (callSpecialIfBound? (.ref x) "__ne__" args) Q E s := by
  simp only [callSpecialIfBound?, bindSpecialIfBound?]
  refine wpAny_holding (wpAny_bind (wpAny_bind (wpAny_bind (I.type.here ((looks_findIn X hs).here ?_)))))
  refine wpAny_bind (wpAny_askSetting (wpAny_ite ?_))
  have fin : wpAny M A (call (.builtin "object.__ne__") ([.ref x] ++ args) >>= fun v => pure (some v)) Q E s := wpAny_bind (wpAny_mono h (fun v s' h' => wpAny_pure h') fun _ _ h' => h')
  split
  · exact wpAny_bind (wpAny_of_eq (F.cmp_object.ne.bind _) (wpAny_pure (by exact fin)))
  · exact wpAny_tryCatch (wpAny_bind (wpAny_of_eq (F.cmp_object.ne.bind _) (wpAny_pure (by exact fin))))
theorem entry_ne {Q : Fin → Shared → Prop} (hu : A.units < cLine) (X : K.In s.heap) (I : InstAt s.heap x ox C od) (he : findIn K (.ref C) "__eq__" = some (some (.ref f))) (hf : isFn K (.ref f) = true)
    (h : wpAny (model prog w) A (call (.ref f) [.ref x, b]) (fun v s' => ∃ k, v = .bool k ∧ Q (.done (.ret (.bool (!k)))) s') E s) : wpAny (model prog w) A (Builtin.«object.__ne__» ⟨[.ref x, b], []⟩) Q E s := by
  unfold Builtin.«object.__ne__»
  repeat (first
    | with_reducible refine wpAny_cRoomFor hu ?_
    | (refine wpAny_bind (m := callSpecialIfBound? (.ref x) (Str.ofString "__eq__") [b])
        (ifBound_K X I he hf (wpAny_mono h (fun r s' hr => by
          obtain ⟨b, rfl, hq⟩ := hr
          repeat (first | exact hq | exact wpAny_pure hq | exact wpAny_truthy_bool hq | (refine wpAny_bind (m := truthy (.bool _)) (wpAny_truthy_bool ?_)) | wp_step)) fun _ _ e => e)))
    | wp_step)
theorem cmp_ne_K {Q : Value → Shared → Prop} (hu : A.units + 1 < cLine) (hF : PyProof.Rows.Fr h₀ L s.heap m) (X₀ : K.In h₀) (I : InstAt s.heap x ox C od) (hb : Looks (model prog w) s.heap (typeOf b) tb) (hn : notFirst K C tb = true)
    (hm : mroIn K C (.type "object") = some true) (hs : findIn K (.ref C) "__ne__" = some (some (.builtin "object.__ne__"))) (he : findIn K (.ref C) "__eq__" = some (some (.ref f))) (hf : isFn K (.ref f) = true)
    (h : wpAny (model prog w) A.in1 (call (.ref f) [.ref x, b]) (fun v s' => ∃ k, v = .bool k ∧ Q (.bool (!k)) s') E s) : wpAny (model prog w) A (richCompare .NotEq (.ref x) b) Q E s := by
  have X := X₀.keeps hF.keep
  have one : wpAny (model prog w) A (tryCompare (.ref x) (cmpInfo .NotEq).2.1 b) (fun r s' => ∃ v, r = some v ∧ Q v s') E s := by
    unfold tryCompare
    refine wpAny_bind (ifBound_objNe X I hs (wpAny_call (codeAny_call_builtin F.cmp_object.ne.plain F.cmpEntry_ne (check_slot F.cmpKind_ne F.cmpSplit_ne (I.type.andThen (looks_mroIn X hm)) (F.cmpArgs_ne _ _) (entry_ne (A := A.in1) hu X I he hf (wpAny_mono h (fun v s' hv => ?_) fun _ _ e => e))))))
    obtain ⟨k, rfl, hq⟩ := hv
    first | exact ⟨k, rfl, wpAny_pure ⟨_, rfl, hq⟩⟩ | exact ⟨k, rfl, wpAny_pure (wpAny_pure ⟨_, rfl, hq⟩)⟩
  unfold richCompare
  simp only [oneThing_ref]
  refine wpAny_holding (wpAny_bind (wpAny_cRoomFor (Nat.lt_of_succ_lt hu) ?_))
  refine wpAny_bind (I.type.here (wpAny_bind (hb.here ?_)))
  split
  · rename_i q
    have e : subIn K tb (.ref C) = some false := by
      rcases Bool.or_eq_true_iff.mp hn with e | e
      · rw [beq_iff_eq.mp e] at q; simp at q
      · exact beq_iff_eq.mp e
    refine wpAny_bind ((looks_subIn X e).here ?_)
    simp only [Bool.false_eq_true, if_false]
    refine wpAny_bind (wpAny_mono one (fun r s' z => ?_) fun _ _ e => e)
    obtain ⟨v, rfl, hq⟩ := z
    exact wpAny_pure hq
  · refine wpAny_bind (wpAny_pure ?_)
    simp only [Bool.false_eq_true, if_false]
    refine wpAny_bind (wpAny_mono one (fun r s' z => ?_) fun _ _ e => e)
    obtain ⟨v, rfl, hq⟩ := z
    exact wpAny_pure hq
end

section
variable {X : Cx} {xc : Xc}
/-- what an own == gives -/
def rOwn (X : Cx) (c : String) (m : SF) (neg : Bool) : R2 := fun x y H Q => ∃ a b C dx dy fs gs, x = .ref a ∧ y = .ref b ∧ X.mg (nm c) = some (.ref C) ∧ H a = some (.ins C dx fs) ∧ H b = some (.ins C dy gs) ∧
  spI X.K X.mg 2 id m [.ref a, .ref b] H (fun v H' => ∃ k, v = .bl k ∧ Q (.bl (if neg then !k else k)) H') (fun _ _ _ => False)
theorem spI_exc {K : PySem.W.Frag} {mg : Str → Option Value} {n : Nat} {m : SF} {vs : List V} {H : Hp} {Q : VK} {E : XK} (h : spI K mg n id m vs H Q (fun _ _ _ => False)) : spI K mg n id m vs H Q E := by
  obtain ⟨g, S, ds, h1, h2, h3, h4⟩ := h
  refine ⟨g, S, ds, h1, h2, h3, ?_⟩
  revert h4
  cases m ds S with
  | stuck => exact fun h => h
  | exc c fs e S' => exact fun h g' H' cls d l r k x => (h g' H' cls d l r k x).elim
  | ok d e S' => exact fun h => h
/-- a class with an own == -/
def EqOk (X : Cx) (c : String) (m : SF) : Prop := ∃ C f fd ps lvl, X.mg (nm c) = some (.ref C) ∧ Meth X.K C "__eq__" f ∧ FnOk X.prog X.w X.K X.mg X.base (L2.CX X.prog X.w) lvl f fd ps (spI X.K X.mg 2 id m) ∧ Binds X.K fd ps [] ∧ Room (lvl + 1) X.A ∧
  PySem.W.mroIn X.K C (.type "object") = some true ∧ PySem.W.findIn X.K (.ref C) "__ne__" = some (some (.builtin "object.__ne__"))
theorem own_call {A : Around} {lvl : Nat} {pins : List (Addr × Obj)} {σ : L2.St} {H : Hp} {s : Shared} {Q : VK} {f : Addr} {fd : FuncData} {ps : List Str} {sp : Sp} {E : XK} {us : List Value} {vs : List V} (sb : Sub X lvl A)
    (F : FnOk X.prog X.w X.K X.mg X.base (L2.CX X.prog X.w) lvl f fd ps sp) (hb : Binds X.K fd ps []) (hx : PassesAt (L2.CX X.prog X.w) X σ E) (I : Inv X pins σ H s) (r : Vals vs us) (h : sp vs H Q E) :
    wpAny (model X.prog X.w) A (call (.ref f) us) (EP X pins σ Q) X.xe s := by
  have hl : us.length = ps.length := by rw [← r.length]; exact F.len _ _ _ _ h
  have b := hb s us I.kIn (by rw [List.append_nil]; exact hl)
  rw [List.append_nil] at b
  have e0 : Env0 X.prog X.w X.K X.mg X.base A X.stack s H := by
    have e := I.env0
    exact ⟨by rw [sb.fr]; exact e.frames, e.mod, e.bs, e.bsz, e.funs, e.frf, e.hok, e.bare⟩
  refine wpAny_call (codeAny_mono (F.run A X.stack s H ⟨us, []⟩ us vs Q E sb.room e0 b r h) fun r s' hq => ?_)
  cases r with
  | error e => exact hx pins H s e s' I hq
  | ok fl =>
    cases fl with
    | ret u => exact I.after hq
    | next => exact False.elim hq
    | brk => exact False.elim hq
    | cont => exact False.elim hq
theorem op_ownE {W : WX} {c : String} {m : SF} (T : EqOk X c m) (tk : Takes X W) : OpR X (compareOp .Eq) (rOwn X c m false) := by
  intro pins s σ H x y v u Q I rx ry hq
  obtain ⟨a, b, C, dx, dy, fs, gs, rfl, rfl, hC, ha, hb', sp⟩ := hq
  obtain ⟨C', f, fd, ps, lvl, hC', M, F, hb, hr, hm, hne⟩ := T
  rw [hC] at hC'; cases hC'
  cases rx
  cases ry
  obtain ⟨mA, J, _⟩ := ins_get I.hok ha
  obtain ⟨mB, J', _⟩ := ins_get I.hok hb'
  obtain ⟨od, J, _⟩ := J.look
  obtain ⟨od', J', _⟩ := J'.look
  obtain ⟨mm, hF⟩ := I.fr
  show wpAny (model X.prog X.w) X.A (richCompare .Eq (.ref a) (.ref b)) (EP X pins σ Q) X.xe s
  refine PySem.W.cmp_K (op := .Eq) (tb := .ref C) hr.units0 hF I.ok.mod.kin J J'.type (by simp [PySem.W.notFirst]) M.at_ M.fn ?_
  refine wpAny_mono (own_call (A := X.A) ⟨hr.mono (Nat.le_succ _), rfl⟩ F hb (passAt tk σ) I (us := [.ref a, .ref b]) (vs := [.ref a, .ref b]) (.cons rfl (.cons rfl .nil)) (spI_exc sp)) (fun v s' h => ?_) fun _ _ e => e
  obtain ⟨z, H', I', rz, k, rfl, q⟩ := h
  cases rz
  exact ⟨.bl k, H', I', rfl, q⟩
theorem op_ownN {W : WX} {c : String} {m : SF} (T : EqOk X c m) (tk : Takes X W) : OpR X (compareOp .NotEq) (rOwn X c m true) := by
  intro pins s σ H x y v u Q I rx ry hq
  obtain ⟨a, b, C, dx, dy, fs, gs, rfl, rfl, hC, ha, hb', sp⟩ := hq
  obtain ⟨C', f, fd, ps, lvl, hC', M, F, hb, hr, hm, hne⟩ := T
  rw [hC] at hC'; cases hC'
  cases rx
  cases ry
  obtain ⟨mA, J, _⟩ := ins_get I.hok ha
  obtain ⟨mB, J', _⟩ := ins_get I.hok hb'
  obtain ⟨od, J, _⟩ := J.look
  obtain ⟨od', J', _⟩ := J'.look
  obtain ⟨mm, hF⟩ := I.fr
  show wpAny (model X.prog X.w) X.A (richCompare .NotEq (.ref a) (.ref b)) (EP X pins σ Q) X.xe s
  have sb : Sub X lvl X.A.in1 := Sub.in1 ⟨hr, rfl⟩
  refine cmp_ne_K (tb := .ref C) sb.room.units0 hF I.ok.mod.kin J J'.type (by simp [PySem.W.notFirst]) hm hne M.at_ M.fn ?_
  refine wpAny_mono (own_call sb F hb (passAt tk σ) I (us := [.ref a, .ref b]) (vs := [.ref a, .ref b]) (.cons rfl (.cons rfl .nil)) (spI_exc sp)) (fun v s' h => ?_) fun _ _ e => e
  obtain ⟨z, H', I', rz, k, rfl, q⟩ := h
  cases rz
  exact ⟨k, rfl, .bl (!k), H', I', rfl, q⟩
theorem own_sp {W : WX} {S0 S2 : Sto} {σ2 : L2.St} {H2 : Hp} {g2 : Gh} {e2 : Env} {neg : Bool} {m : SF} {x y : D} {v u : V} {Q : Bool → Hp → Prop} {Q' : VK} (rel2 : Rel X.K X.mg xc g2 S0 e2 S2 σ2 H2) (rv : Rep X.K X.mg g2 x v) (ru : Rep X.K X.mg g2 y u) (hQ : ∀ k H', Q k H' → Q' (.bl k) H')
    (q2 : Post X.K X.mg xc W S0 (· = σ2) g2 (eqB neg (m [x, y] S2) e2) (fun _ b _ _ _ H' => Q b H')) : spI X.K X.mg 2 id m [v, u] H2 (fun v H' => ∃ k, v = .bl k ∧ Q' (.bl (if neg then !k else k)) H') (fun _ _ _ => False) := by
  refine ⟨g2, S2, [x, y], rfl, rel2.st, .cons rv (.cons ru .nil), ?_⟩
  revert q2
  cases m [x, y] S2 with
  | stuck => exact fun h => h.elim
  | exc c' fs' e' S' => exact fun h => h.elim
  | ok d e' S' =>
    cases d with
    | bl k =>
      intro h g' H' v l r' kf rep
      cases rep
      exact ⟨k, rfl, hQ _ H' (h g' σ2 H' rfl l (rel2.move l r' kf))⟩
    | _ => exact fun h => h.elim
/-- the two readings -/
theorem twoE {W : WX} {neg : Bool} {c : String} {m : SF} {fa fb : SE} {r : R2} (hr : OpB X.K X.mg (if neg then neS else eqS) r) :
    ∀ σ H (Q : Bool → Hp → Prop), tTI X xc W (eqTM neg c m fa fb) σ H Q → ∀ Q' : VK, (∀ k H', Q k H' → Q' (.bl k) H') → tOp (fun x y H Q => rOwn X c m neg x y H Q ∨ r x y H Q) (tI X xc W fa) (tI X xc W fb) σ H Q' := fun σ H Q ⟨g, S0, e, S, rel, q⟩ Q' hQ =>
  ⟨g, S0, e, S, rel, q.bind.imp (fun _ t => t) fun g1 x e1 S1 σ1 H1 t1 l1 rel1 q1 v rv => by
    subst t1
    exact ⟨g1, S0, e1, S1, rel1, q1.bind.imp (fun _ t => t) fun g2 y e2 S2 σ2 H2 t2 l2 rel2 q2 u ru => by
      subst t2
      unfold eqR at q2
      by_cases ho : ownOf c S2 x y = true
      · rw [if_pos ho] at q2
        unfold ownOf at ho
        cases c1 : classOf S2 x with
        | none => rw [c1] at ho; cases ho
        | some p1 =>
          cases c2 : classOf S2 y with
          | none => rw [c1, c2] at ho; cases ho
          | some p2 =>
            obtain ⟨n1, f1⟩ := p1
            obtain ⟨n2, f2⟩ := p2
            rw [c1, c2] at ho
            simp only [Bool.and_eq_true, beq_iff_eq] at ho
            obtain ⟨rfl, rfl⟩ := ho
            have rv2 := rv.mono l2
            obtain ⟨a, C, dx, fv, rfl, h1, h2, h3⟩ := classOf_ok rel2.st rv2 c1
            obtain ⟨a', C', dx', fv', rfl, h1', h2', h3'⟩ := classOf_ok rel2.st ru c2
            rw [h1] at h1'; cases h1'
            exact .inl ⟨a, a', C, dx, dx', fv, fv', rfl, rfl, h1, h2, h2', own_sp rel2 rv2 ru hQ q2⟩
      · rw [if_neg ho] at q2
        have q2' : Post X.K X.mg xc W S0 (· = σ2) g2 (R.opt ((if neg then neS else eqS) S2 x y) e2 S2) (fun _ b _ _ _ H' => Q b H') := by cases neg <;> exact q2
        obtain ⟨k, hk, q3⟩ := q2'.opt
        exact .inr (hr g2 S2 H2 x y k v u Q' rel2.st (rv.mono l2) ru hk (hQ k H2 (q3 g2 _ H2 rfl (.refl g2) rel2)))⟩⟩
theorem rt_eqO {a b : Expr} {pos : Pos} {fa fb : SE} {c : String} {m : SF} (T : EqOk X c m) (ha : RE X xc a fa) (hb : RE X xc b fb) : RT X xc (.Compare a [.Eq] [b] pos) (eqTM false c m fa fb) := fun W ok =>
  pt_imp (pt_cmpR ((op_ownE T ok.tk).or (op_eqS ok.hu)) (ha W ok) (hb W ok) (nomark _)) fun σ H Q q => twoE (neg := false) ob_eq σ H Q q _ fun k H' h => ⟨k, rfl, h⟩
theorem rt_neO {a b : Expr} {pos : Pos} {fa fb : SE} {c : String} {m : SF} (T : EqOk X c m) (ha : RE X xc a fa) (hb : RE X xc b fb) : RT X xc (.Compare a [.NotEq] [b] pos) (eqTM true c m fa fb) := fun W ok =>
  pt_imp (pt_cmpR ((op_ownN T ok.tk).or (op_neS ok.hu)) (ha W ok) (hb W ok) (nomark _)) fun σ H Q q => twoE (neg := true) ob_ne σ H Q q _ fun k H' h => ⟨k, rfl, h⟩
theorem re_eqO {a b : Expr} {pos : Pos} {fa fb : SE} {c : String} {m : SF} (T : EqOk X c m) (ha : RE X xc a fa) (hb : RE X xc b fb) : RE X xc (.Compare a [.Eq] [b] pos) (boolM (eqTM false c m fa fb)) :=
  re_bool fun W ok => ⟨_, pe_cmpR ((op_ownE T ok.tk).or (op_eqS ok.hu)) (ha W ok) (hb W ok) (nomark _), fun σ H Q q => twoE (neg := false) ob_eq σ H _ q Q fun k H' h => h⟩
theorem re_neO {a b : Expr} {pos : Pos} {fa fb : SE} {c : String} {m : SF} (T : EqOk X c m) (ha : RE X xc a fa) (hb : RE X xc b fb) : RE X xc (.Compare a [.NotEq] [b] pos) (boolM (eqTM true c m fa fb)) :=
  re_bool fun W ok => ⟨_, pe_cmpR ((op_ownN T ok.tk).or (op_neS ok.hu)) (ha W ok) (hb W ok) (nomark _), fun σ H Q q => twoE (neg := true) ob_ne σ H _ q Q fun k H' h => h⟩
end
section
variable {P : Program} {w : World} {K : PySem.W.Frag} {mg : Str → Option Value} {base : Heap}
/-- what is written of an own == -/
def EqT (K : PySem.W.Frag) (mg : Str → Option Value) (c q : String) (st : Stmt) : Prop := ∃ C f fd, mg (nm c) = some (.ref C) ∧ Meth K C "__eq__" f ∧ Fun K (nm "__eq__") (nm q) st f fd ∧ PySem.W.mroIn K C (.type "object") = some true ∧ PySem.W.findIn K (.ref C) "__ne__" = some (some (.builtin "object.__ne__"))
def EqDef (P : Program) (w : World) (K : PySem.W.Frag) (mg : Str → Option Value) (base : Heap) (c : String) (lvl : Nat) (m : SF) : Prop := ∃ C f fd ps, mg (nm c) = some (.ref C) ∧ Meth K C "__eq__" f ∧ FnOk P w K mg base (L2.CX P w) lvl f fd ps (spI K mg 2 id m) ∧ Binds K fd ps [] ∧
  PySem.W.mroIn K C (.type "object") = some true ∧ PySem.W.findIn K (.ref C) "__ne__" = some (some (.builtin "object.__ne__"))
theorem EqT.ok {c q : String} {st : Stmt} {lvl : Nat} {mf : SF} (D : EqT K mg c q st) (ps : List Str) (h : ∀ f fd, Fun K (nm "__eq__") (nm q) st f fd → FnOk P w K mg base (L2.CX P w) lvl f fd ps (spI K mg 2 id mf))
    (hb : ∀ (kV doc pm : Value) (an : Option Addr) (cdv ct : Value) (us : List Value), us.length = ps.length → bindArgs (PySem.W.fnOf (nm "__eq__") (nm q) (defArgs st) (defBody st) (defScope st) .none kV doc pm an cdv ct) ⟨us, []⟩ = pure (ps.zip us)) : EqDef P w K mg base c lvl mf := by
  obtain ⟨C, f, fd, h1, h2, F, h3, h4⟩ := D
  exact ⟨C, f, fd, ps, h1, h2, h f fd F, F.binds (ps := ps) hb, h3, h4⟩
theorem EqDef.at_ {X : Cx} {c : String} {lvl : Nat} {mf : SF} (M : EqDef X.prog X.w X.K X.mg X.base c lvl mf) (hr : Room (lvl + 1) X.A) : EqOk X c mf := by
  obtain ⟨C, f, fd, ps, h1, h2, F, b, h3, h4⟩ := M
  exact ⟨C, f, fd, ps, lvl, h1, h2, F, b, hr, h3, h4⟩
end
end Mir
namespace Mir
open PySem L2
section
variable {X : Cx} {xc : Xc}
/-- what is known of a class for isinstance -/
def IsT (K : PySem.W.Frag) (mg : Str → Option Value) (c : String) : Prop := ∃ C, mg (nm c) = some (.ref C) ∧ Cls K C ∧
  PySem.W.findIn K (.ref C) "__class__" = some (some (.builtin "object.__class__")) ∧ PySem.W.specialIn K (.builtin "object.__class__") "__get__" = some (some (.builtin "getset_descriptor.__get__")) ∧
  PySem.W.takesIn K (.builtin "object.__class__") = some true ∧ PySem.W.mroIn K C (.type "object") = some true ∧ PySem.W.kitOne K (.ref C) (.ref C) = some true ∧ PySem.W.kitOne K (.ref C) (.type "int") = some false ∧
  (PySem.W.kitOne K (.type "NoneType") (.ref C) = some false ∧ PySem.W.kitOne K (.type "bool") (.ref C) = some false ∧ PySem.W.kitOne K (.type "int") (.ref C) = some false ∧ PySem.W.kitOne K (.type "str") (.ref C) = some false ∧
  PySem.W.kitOne K (.type "bytes") (.ref C) = some false ∧ PySem.W.kitOne K (.type "list") (.ref C) = some false ∧ PySem.W.kitOne K (.type "tuple") (.ref C) = some false ∧ PySem.W.kitOne K (.type "dict") (.ref C) = some false)
theorem re_isi_own {e : Expr} {c : String} {p p2 pos : Pos} {f : SE} (T : IsT X.K X.mg c) (hg : Gl X "isinstance") (hm : X.mg "isinstance" = none) (nt : NoTy X) (hg2 : Gl X (nm c)) (h : RE X xc e f) (hdb : (nm c == ("__debug__" : Str)) = false := by decide +kernel)
    (he : starEach [e, .Name (nm c) p2] X.env = (false, eval e X.env) :: starEach [.Name (nm c) p2] X.env := by rfl) (he2 : starEach [.Name (nm c) p2] X.env = (false, eval (.Name (nm c) p2) X.env) :: starEach [] X.env := by rfl) (hpl : (backTo pos (starEach [.Name (nm c) p2] X.env)).any (·.1) = false := by rfl) :
    RE X xc (.Call (.Name "isinstance" p) [e, .Name (nm c) p2] [] pos) (boolM (isiM (tyC c) f)) := by
  obtain ⟨C, h1, h2, h3, h4, h5, h6, h7, _, t1, t2, t3, t4, t5, t6, t7, t8⟩ := T
  obtain ⟨n1, n2, n3, n4, n5, n6, n7, n8⟩ := nt
  exact re_isi hg hm ⟨n1, n2, n3, n4, n5, n6, n7, n8⟩ h (pe_glob hg2 h1 (show RelV (.ref C) (.ref C) from rfl) hdb) (.own C) (.cls ⟨h1, h2, h3, h4, h5, h6⟩ h7 (.ty t1 n1 (.ty t2 n2 (.ty t3 n3 (.ty t4 n4 (.ty t5 n5 (.ty t6 n6 (.ty t7 n7 (.ty t8 n8 .nil))))))))) he he2 hpl
theorem re_isi_intO {e : Expr} {c : String} {p p2 pos : Pos} {f : SE} (T : IsT X.K X.mg c) (hg : Gl X "isinstance") (hm : X.mg "isinstance" = none) (nt : NoTy X) (hg2 : Gl X "int") (hm2 : X.mg "int" = none) (h : RE X xc e f)
    (he : starEach [e, .Name "int" p2] X.env = (false, eval e X.env) :: starEach [.Name "int" p2] X.env := by rfl) (he2 : starEach [.Name "int" p2] X.env = (false, eval (.Name "int" p2) X.env) :: starEach [] X.env := by rfl) (hpl : (backTo pos (starEach [.Name "int" p2] X.env)).any (·.1) = false := by rfl) :
    RE X xc (.Call (.Name "isinstance" p) [e, .Name "int" p2] [] pos) (boolM (isiM ((c, false) :: ty_int) f)) := by
  obtain ⟨C, h1, h2, h3, h4, h5, h6, _, h7, _⟩ := T
  exact re_isi hg hm nt h (pe_bltn hg2 hm2 (by decide +kernel) (show RelV (.ty "int") (.type "int") from rfl)) (.ty "int") (.cls ⟨h1, h2, h3, h4, h5, h6⟩ h7 (it_int nt)) he he2 hpl
end
end Mir
namespace Mir
open PySem L2
section
variable {X : Cx} {xc : Xc}
theorem slT_ok {g : Gh} {S : Sto} {H : Hp} {x z : D} {v : V} {l u : Option Int} {Q : VK} (r : SRel X.K X.mg g S H) (hx : Rep X.K X.mg g x v) (hz : slcTS x l u = some z) (q : ∀ g' H' w, Ext X.K X.mg g H g' H' → Rep X.K X.mg g' z w → Q w H') : rSlA X.K v l u H Q := by
  cases x with
  | tup xs =>
    cases hz
    have hx0 := hx
    cases hx with
    | tup h1 h2 h3 =>
      rename_i a vs
      have rs : Reps X.K X.mg g xs vs := ⟨h2, h3⟩
      refine ⟨a, vs, rfl, ?_, fun hw => ?_, fun _ p hp => newTup r (cutV_eq rs l u) q hp⟩
      · exact sub_SqT r h1
      · have e : cutL xs l u = xs := by
          unfold cutL
          rw [cutI_eq, cutI_eq, ← h2, hw.1, hw.2, List.drop_zero, Nat.sub_zero, h2, List.take_length]
        rw [e] at q
        exact q g H _ (.refl g H) hx0
  | _ => cases hz
theorem re_sliceT {e : Expr} {lo hi : Option Expr} {p2 pos : Pos} {f : SE} {fl fu : Option SE} (h : RE X xc e f) (hl : RO X xc lo fl) (hu : RO X xc hi fu) : RE X xc (.Subscript e (.Slice lo hi none p2) pos) (slcTM f fl fu) := fun W ok =>
  pe_imp (pe_slice sl_tupA (h W ok) (po_of ok hl) (po_of ok hu)) fun σ H Q ⟨g, S0, en, S, rel, q⟩ => ⟨g, S0, en, S, rel, q.bind.imp (fun _ t => t) fun g1 x e1 S1 σ1 H1 t1 l1 rel1 q1 v rv => by
    subst t1
    exact ⟨g1, S0, e1, S1, rel1, q1.bind.imp (fun _ t => t) fun g2 o e2 S2 σ2 H2 t2 l2 rel2 q2 => by
      subst t2
      exact ⟨g2, S0, e2, S2, rel2, q2.bind.imp (fun _ t => t) fun g3 o' e3 S3 σ3 H3 t3 l3 rel3 q3 => by
        subst t3
        obtain ⟨z, hz, q4⟩ := q3.opt
        exact slT_ok rel3.st ((rv.mono l2).mono l3) hz fun g4 H4 w x4 rw4 => q4 g4 _ H4 rfl x4.le (rel3.ext x4) w rw4⟩⟩⟩
end
end Mir
namespace Mir
open PySem L2
section
variable {X : Cx} {xc : Xc}
theorem rs_par {i j : Nat} {x y : Str} {a b : Expr} {fs : SA} {px py pt pos : Pos} {kt k2 : Nat} {pt2 : Pos} (hN : X.N.Nodup) (ha : RA X xc [a, b] fs) (hc : X.calm = true := by rfl) (hi : X.N[i]? = some x := by rfl) (hj : X.N[j]? = some y := by rfl) (hij : i ≠ j := by decide)
    (hx : X.env.scope.names.lookup x = some .local := by rfl) (hy : X.env.scope.names.lookup y = some .local := by rfl)
    (hw : swappedStores [.Tuple [.Name x px, .Name y py] kt pt] (.Tuple [a, b] k2 pt2) X.env = pure (some [x, y]) := by rfl)
    (hs : swapsWithSole [.Tuple [.Name x px, .Name y py] kt pt] (.Tuple [a, b] k2 pt2) pos.line X.env = pure false := by rfl)
    (ci : ∀ p, xc = some p → p.1 ≠ i := by first | exact (fun _ h => by cases h) | exact (fun _ h => by cases h; decide)) (cj : ∀ p, xc = some p → p.1 ≠ j := by first | exact (fun _ h => by cases h) | exact (fun _ h => by cases h; decide)) :
    RS X xc (.Assign [.Tuple [.Name x px, .Name y py] kt pt] (.Tuple [a, b] k2 pt2) pos) (parM i j fs) :=
  fun W ok => ps_imp (ps_par hc hN hi hj hij hx hy (ha W ok) hw hs) fun D σ H ⟨g, S0, e, S, rel, q⟩ =>
  ⟨g, S0, e, S, rel, q.bind.imp (fun _ t => trivial) fun g1 xs e1 S1 σ1 H1 t1 l1 rel1 q1 vs rvs => by
    subst t1
    match xs, q1, rvs with
    | [d1, d2], q1, rvs =>
      match vs, rvs.len with
      | [v, w], _ =>
        refine ⟨v, w, rfl, ?_⟩
        dsimp only at q1
        by_cases hl : i < e1.length ∧ j < e1.length
        · rw [if_pos hl] at q1
          have r1 := rel1.slot hl.1 (rvs.at_ 0 d1 v rfl rfl) ci
          have r2 := r1.slot (i := j) (by rw [List.length_set]; exact hl.2) (rvs.at_ 1 d2 w rfl rfl) cj
          exact q1 g1 _ H1 trivial (.refl g1) r2
        · rw [if_neg hl] at q1
          exact q1.elim
    | [], q1, _ => exact q1.elim
    | [_], q1, _ => exact q1.elim
    | _ :: _ :: _ :: _, q1, _ => exact q1.elim⟩
end
end Mir
namespace Mir
open PySem L2
/-- a tuple of texts at the top -/
def strOfV : Value → Option Str
  | .str x _ => some x
  | _ => none
def TupT (K : PySem.W.Frag) (mg : Str → Option Value) (x : String) (ss : List String) : Prop := ∃ (a : Addr) (o : Obj) (its : Array Value) (n : Nat), mg (nm x) = some (.ref a) ∧ K.lookup a = some o ∧ o.cls = .type "tuple" ∧ o.data = .seq its n ∧ its.size ≤ sizeLine ∧ its.toList.map strOfV = ss.map fun s => some (nm s)
theorem vals_strs : ∀ {its : List Value} {ss : List String}, its.map strOfV = ss.map (fun s => some (nm s)) → Vals (ss.map fun s => V.str (nm s)) its
  | [], [], _ => .nil
  | [], _ :: _, h => by cases h
  | _ :: _, [], h => by cases h
  | v :: its, s :: ss, h => by
    simp only [List.map_cons, List.cons.injEq] at h
    refine .cons ?_ (vals_strs h.2)
    have h1 := h.1
    cases v with
    | str x t =>
      simp only [strOfV, Option.some.injEq] at h1
      subst h1
      exact ⟨t, rfl⟩
    | _ => simp [strOfV] at h1
section
variable {X : Cx} {xc : Xc}
theorem re_tupc {x : String} {ss : List String} {pos : Pos} (T : TupT X.K X.mg x ss) (hg : Gl X (nm x)) (hd : (nm x == ("__debug__" : Str)) = false := by decide +kernel) : RE X xc (.Name (nm x) pos) (cM (.tup (ss.map fun s => .str (cps s)))) := by
  obtain ⟨a, o, its, n, h1, h2, h3, h4, h5, h6⟩ := T
  refine re_c (fun _ _ => pe_glob hg h1 (show RelV (.ref a) (.ref a) from rfl) hd) fun g => ?_
  refine .tup (.inr ⟨o, its, n, h2, h3, h4, h5, vals_strs h6⟩) (by simp) fun i d v e1 e2 => ?_
  rw [List.getElem?_map] at e1 e2
  cases hs : ss[i]? with
  | none => rw [hs] at e1; cases e1
  | some s =>
    rw [hs] at e1 e2
    cases e1; cases e2
    show Rep _ _ _ (.str (cps s)) (.str (nm s))
    rw [nm_cps]; exact .str
end
end Mir
namespace Mir
open PySem L2
section
variable {X : Cx} {xc : Xc}
theorem seqD_ok {K : PySem.W.Frag} {mg : Str → Option Value} {g : Gh} {S : Sto} {H : Hp} {d : D} {v : V} {xs : List D} (r : SRel K mg g S H) (n : Now K mg g H d v) (h : seqD d = some xs) : ∃ a vs, v = .ref a ∧ (SqT K H a vs ∨ SqL K H a vs) ∧ Reps K mg g xs vs := by
  cases d with
  | lst ys => cases h; obtain ⟨a, vs, rfl, h1, h2⟩ := n.of_lst; exact ⟨a, vs, rfl, .inr (SqL.of h1), h2⟩
  | frz ys => cases h; obtain ⟨a, vs, rfl, h1, h2⟩ := n.of_frz r; exact ⟨a, vs, rfl, .inr h1, h2⟩
  | tup ys => cases h; obtain ⟨a, vs, rfl, h1, h2⟩ := n.of_tup r; exact ⟨a, vs, rfl, .inl h1, h2⟩
  | _ => cases h
theorem ra_star {e : Expr} {es : List Expr} {p : Pos} {f : SE} {fs : SA} (h : RE X xc e f) (hr : RA X xc es fs) (hs : starEach (.Starred e p :: es) X.env = (true, eval e X.env) :: starEach es X.env := by rfl) : RA X xc (.Starred e p :: es) (starA f fs) :=
  fun W ok => pa_imp (StX.pa_star (h W ok) (hr W ok) hs) fun σ H Q ⟨g, S0, e, S, rel, q⟩ =>
  ⟨g, S0, e, S, rel, q.bind.imp (fun _ t => t) fun g1 x e1 S1 σ1 H1 t1 l1 rel1 q1 v rv => by
    subst t1
    obtain ⟨xs, hx, q2⟩ := q1.bind.opt
    obtain ⟨a, vs, rfl, h1, h2⟩ := seqD_ok rel1.st (Now.of rel1.st rv) hx
    refine ⟨a, vs, rfl, h1, g1, S0, e1, S1, rel1, (q2 g1 _ H1 rfl (.refl g1) rel1).bind.imp (fun _ t => t) fun g2 ys e2 S2 σ2 H2 t2 l2 rel2 q3 us ru => ?_⟩
    subst t2
    exact q3 g2 _ H2 rfl (.refl g2) rel2 (vs ++ us) ((h2.mono l2).append ru)⟩
end
end Mir
namespace Mir
open PySem L2
section
variable {X : Cx} {xc : Xc}
theorem intsOf_ok {K : PySem.W.Frag} {mg : Str → Option Value} {g : Gh} : ∀ {xs : List D} {vs : List V} {ns : List Int}, Reps K mg g xs vs → intsOf xs = some ns → vs = ns.map V.int
  | [], vs, ns, r, h => by cases h; rw [r.inv0]; rfl
  | x :: xs, vs, ns, r, h => by
    obtain ⟨v, r', rfl, rv, rr⟩ := r.inv
    cases x with
    | int b =>
      rw [intsOf, Option.map_eq_some_iff] at h
      obtain ⟨bs', hb, rfl⟩ := h
      cases rv
      rw [intsOf_ok rr hb]; rfl
    | _ => cases h
theorem foldl_max : ∀ (r : List Int) (n m : Int), m ∈ n :: r → (∀ y, y ∈ n :: r → y ≤ m) → r.foldl max n = m
  | [], n, m, h, _ => by rw [List.mem_singleton] at h; exact h.symm
  | a :: r, n, m, h, hle => by
    rw [List.foldl_cons]
    refine foldl_max r (max n a) m ?_ fun y hy => ?_
    · rcases List.mem_cons.mp h with rfl | h
      · have := hle a (by simp)
        rw [Int.max_eq_left this]; exact List.mem_cons_self
      · rcases List.mem_cons.mp h with rfl | h
        · have := hle n (by simp)
          rw [Int.max_eq_right this]; exact List.mem_cons_self
        · exact List.mem_cons_of_mem _ h
    · rcases List.mem_cons.mp hy with rfl | hy
      · have h1 := hle n (by simp)
        have h2 := hle a (by simp)
        omega
      · exact hle y (List.mem_cons_of_mem _ (List.mem_cons_of_mem _ hy))
theorem cl_max : CallL X.K X.mg maxS (rMax X.K) := fun g S H xs z vs Q r h hz q => by
  unfold maxS at hz
  split at hz
  · rename_i x
    obtain ⟨v, r', rfl, rv, rr⟩ := h.inv
    rw [rr.inv0]
    have nx := Now.of r rv
    revert hz nx
    generalize deref S x = x'
    intro hz nx
    split at hz
    · split at hz
      · rename_i n rest hi
        cases hz
        obtain ⟨a, ws, rfl, h1, h2⟩ := nx.of_lst
        refine ⟨a, n :: rest, rfl, by rw [← intsOf_ok h2 hi]; exact SqL.of h1, by simp, fun m hm hle => ?_⟩
        rw [foldl_max rest n m hm hle] at q
        exact q g H _ (.refl g H) .int
      · cases hz
    · cases hz
  · cases hz
theorem re_max {e : Expr} {p pos : Pos} {f : SE} (hg : Gl X "max") (hm : X.mg "max" = none) (h : RE X xc e f) (hc : X.calm = true := by rfl) (he : starEach [e] X.env = (false, eval e X.env) :: starEach [] X.env := by rfl) : RE X xc (.Call (.Name "max" p) [e] [] pos) (fnA maxS (consA f nilA)) :=
  re_callB (cr_max hc) cl_max hg hm (by decide +kernel) (ra_cons h ra_nil he) (by decide) (by decide) he
end
end Mir
end

/-! Sh -/
section
set_option linter.all false
set_option maxRecDepth 100000
/-! Sh: meanings of the defs that several laws share (written by gen.py). -/
namespace Mir.Sh
open Mir
noncomputable def b__law_well_0 : SS := fun b e S => (retM (ownM false (lstA (consA (varM 0) (consA (cM (.int 0)) (nilA)))))) b e S
noncomputable def m__law_well : SF := fnM 1 true (b__law_well_0)
noncomputable def b__law_draw_0 : SS := fun b e S => (ifM (cmpT geS (op2 idxS (rawM 0) (cM (.int 0))) (op2 powS (cM (.int 10)) (cM (.int 18)))) (seqM (asgM (op2 modS (fnA intS (consA (op2 idxS (rawM 0) (cM (.int 0))) nilA)) (rawM 1)) (gnM 4)) (seqM (asgM (op2 fdivS (op2 idxS (rawM 0) (cM (.int 0))) (rawM 1)) (gsM (rawM 0) (cM (.int 0)))) (retM (varM 4)))) (nxM)) b e S
noncomputable def b__law_draw_1 : SS := fun b e S => (asgM (op2 addS (op2 idxS (rawM 0) (cM (.int 1))) (cM (.int 1))) (gsM (rawM 0) (cM (.int 1)))) b e S
noncomputable def b__law_draw_2 : SS := fun b e S => (asgM (op2 modS (op2 mulS (op2 addS (op2 addS (op2 modS (fnA intS (consA (op2 idxS (rawM 0) (cM (.int 0))) nilA)) (cM (.int 2147483629))) (op2 mulS (cM (.int 60013)) (op2 idxS (rawM 0) (cM (.int 1))))) (cM (.int 11))) (cM (.int 48271))) (cM (.int 2147483647))) (gnM 2)) b e S
noncomputable def b__law_draw_3 : SS := fun b e S => (asgM (op2 modS (op2 fdivS (op2 idxS (rawM 0) (cM (.int 0))) (cM (.int 2147483629))) (cM (.int 9973))) (gnM 3)) b e S
noncomputable def b__law_draw_4 : SS := fun b e S => (asgM (op2 modS (fnA intS (consA (op2 mulS (rawM 2) (op2 addS (op2 addS (op2 fdivS (rawM 2) (cM (.int 1013))) (cM (.int 40692))) (rawM 3))) nilA)) (cM (.int 2147483587))) (gnM 2)) b e S
noncomputable def b__law_draw_5 : SS := fun b e S => (retM (op2 modS (fnA intS (consA (op2 fdivS (op2 modS (fnA intS (consA (op2 mulS (rawM 2) (op2 addS (op2 fdivS (rawM 2) (cM (.int 2003))) (cM (.int 69621)))) nilA)) (cM (.int 2147483563))) (cM (.int 5))) nilA)) (rawM 1))) b e S
noncomputable def m__law_draw : SF := fnM 5 false (seqM b__law_draw_0 (seqM b__law_draw_1 (seqM b__law_draw_2 (seqM b__law_draw_3 (seqM b__law_draw_4 (b__law_draw_5))))))
noncomputable def b__law_one_0 : SS := fun b e S => (retM (op2 idxS (rawM 1) (callM m__law_draw 2 (consA (varM 0) (consA (fnA lenS (consA (rawM 1) nilA)) (nilA)))))) b e S
noncomputable def m__law_one : SF := fnM 2 false (b__law_one_0)
noncomputable def b__law_line_0 : SS := fun b e S => (asgM (callM m__law_draw 2 (consA (varM 0) (consA (cM (.int 8)) (nilA)))) (gnM 2)) b e S
noncomputable def b__law_line_1 : SS := fun b e S => (ifM (cmpT ltS (rawM 2) (cM (.int 5))) (retM (fnA min2S (consA (cM (.int 2147483647)) (consA (fnA max2S (consA (cM (.int 1)) (consA (op2 subS (op2 subS (op2 addS (rawM 1) (rawM 2)) (cM (.int 1))) (op2 mulS (cM (.int 2)) (callM m__law_draw 2 (consA (varM 0) (consA (cM (.int 2)) (nilA)))))) nilA))) nilA)))) (nxM)) b e S
noncomputable def b__law_line_2 : SS := fun b e S => (retM (callM m__law_one 2 (consA (varM 0) (consA (frzM (lstA (consA (cM (.int 1)) (consA (cM (.int 2147483647)) (consA (op2 addS (cM (.int 1)) (callM m__law_draw 2 (consA (varM 0) (consA (cM (.int 200)) (nilA))))) (consA (op2 addS (cM (.int 1)) (callM m__law_draw 2 (consA (varM 0) (consA (cM (.int 2147483647)) (nilA))))) (nilA))))))) (nilA))))) b e S
noncomputable def m__law_line : SF := fnM 3 false (seqM b__law_line_0 (seqM b__law_line_1 (b__law_line_2)))
noncomputable def b__law_column_0 : SS := fun b e S => (asgM (frzM (lstA (consA (callM m__law_draw 2 (consA (varM 0) (consA (cM (.int 12)) (nilA)))) (consA (callM m__law_draw 2 (consA (varM 0) (consA (cM (.int 82)) (nilA)))) (consA (callM m__law_draw 2 (consA (varM 0) (consA (cM (.int 131)) (nilA)))) (nilA)))))) (gnM 1)) b e S
noncomputable def b__law_column_1 : SS := fun b e S => (retM (callM m__law_one 2 (consA (varM 0) (consA (op2 addS (rawM 1) (frzM (lstA (consA (op2 subS (cM (.int 2147483647)) (callM m__law_draw 2 (consA (varM 0) (consA (cM (.int 9)) (nilA))))) (nilA))))) (nilA))))) b e S
noncomputable def m__law_column : SF := fnM 2 false (seqM b__law_column_0 (b__law_column_1))
noncomputable def b__law_span_0 : SS := fun b e S => (asgM (callM m__law_draw 2 (consA (varM 0) (consA (cM (.int 8)) (nilA)))) (gnM 2)) b e S
noncomputable def b__law_span_1 : SS := fun b e S => (ifM (cmpT eqS (rawM 2) (cM (.int 0))) (retM (cM .non)) (nxM)) b e S
noncomputable def b__law_span_2 : SS := fun b e S => (asgM (callM m__law_line 2 (consA (varM 0) (consA (varM 1) (nilA)))) (gnM 3)) b e S
noncomputable def b__law_span_3 : SS := fun b e S => (ifM (cmpT eqS (rawM 2) (cM (.int 1))) (retM (tupM (consA (varM 3) (consA (varM 3) (consA (cM .non) (consA (cM .non) (nilA))))))) (nxM)) b e S
noncomputable def b__law_span_4 : SS := fun b e S => (asgM (callM m__law_column 1 (consA (varM 0) (nilA))) (gnM 4)) b e S
noncomputable def b__law_span_5 : SS := fun b e S => (asgM (callM m__law_draw 2 (consA (varM 0) (consA (callM m__law_one 2 (consA (varM 0) (consA (frzM (lstA (consA (cM (.int 17)) (consA (cM (.int 40)) (consA (cM (.int 130)) (consA (op2 powS (cM (.int 10)) (cM (.int 6))) (nilA))))))) (nilA)))) (nilA)))) (gnM 5)) b e S
noncomputable def b__law_span_6 : SS := fun b e S => (asgM (varM 3) (gnM 6)) b e S
noncomputable def b__law_span_7 : SS := fun b e S => (ifM (cmpT gtS (rawM 2) (cM (.int 5))) (asgM (fnA min2S (consA (cM (.int 2147483647)) (consA (op2 addS (rawM 3) (callM m__law_one 2 (consA (varM 0) (consA (frzM (lstA (consA (cM (.int 1)) (consA (callM m__law_draw 2 (consA (varM 0) (consA (cM (.int 70)) (nilA)))) (consA (callM m__law_draw 2 (consA (varM 0) (consA (op2 powS (cM (.int 10)) (cM (.int 6))) (nilA)))) (nilA)))))) (nilA))))) nilA))) (gnM 6)) (nxM)) b e S
noncomputable def b__law_span_8 : SS := fun b e S => (ifM (cmpT gtS (rawM 6) (rawM 3)) (retM (tupM (consA (varM 3) (consA (varM 6) (consA (varM 4) (consA (callM m__law_column 1 (consA (varM 0) (nilA))) (nilA))))))) (nxM)) b e S
noncomputable def b__law_span_9 : SS := fun b e S => (retM (tupM (consA (varM 3) (consA (varM 3) (consA (varM 4) (consA (fnA min2S (consA (cM (.int 2147483647)) (consA (op2 addS (rawM 4) (rawM 5)) nilA))) (nilA))))))) b e S
noncomputable def m__law_span : SF := fnM 7 false (seqM b__law_span_0 (seqM b__law_span_1 (seqM b__law_span_2 (seqM b__law_span_3 (seqM b__law_span_4 (seqM b__law_span_5 (seqM b__law_span_6 (seqM b__law_span_7 (seqM b__law_span_8 (b__law_span_9))))))))))
noncomputable def b_is_integer_0 : SS := fun b e S => (ifM (orT (notT (tstM (boolM (isiM ty_int (rawM 0))))) (tstM (boolM (isiM ty_bool (rawM 0))))) (retM (cM (.bl false))) (nxM)) b e S
noncomputable def b_is_integer_1 : SS := fun b e S => (retM (andV (orV (boolM (cmpT isS (rawM 1) (cM .non))) (boolM (cmpT geS (rawM 0) (rawM 1)))) (orV (boolM (cmpT isS (rawM 2) (cM .non))) (boolM (cmpT leS (rawM 0) (rawM 2)))))) b e S
noncomputable def m_is_integer : SF := fnM 3 false (seqM b_is_integer_0 (b_is_integer_1))
noncomputable def b_is_ordered_0 : SS := fun b e S => (ifM (andT (cmpT isS (rawM 2) (cM .non)) (cmpT isS (rawM 3) (cM .non))) (retM (boolM (cmpT eqS (rawM 0) (rawM 1)))) (nxM)) b e S
noncomputable def b_is_ordered_1 : SS := fun b e S => (ifM (orT (notT (tstM (callM m_is_integer 3 (consA (varM 2) (consA (cM (.int 0)) (consA (cM (.int 2147483647)) (nilA))))))) (notT (tstM (callM m_is_integer 3 (consA (varM 3) (consA (cM (.int 0)) (consA (cM (.int 2147483647)) (nilA)))))))) (retM (cM (.bl false))) (nxM)) b e S
noncomputable def b_is_ordered_2 : SS := fun b e S => (retM (orV (boolM (cmpT ltS (rawM 0) (rawM 1))) (boolM (cmpT leS (rawM 2) (rawM 3))))) b e S
noncomputable def m_is_ordered : SF := fnM 4 false (seqM b_is_ordered_0 (seqM b_is_ordered_1 (b_is_ordered_2)))
noncomputable def b_is_span_0 : SS := fun b e S => (ifM (cmpT isS (rawM 0) (cM .non)) (retM (cM (.bl true))) (nxM)) b e S
noncomputable def b_is_span_1 : SS := fun b e S => (ifM (orT (notT (tstM (boolM (isiM ty_tuple (rawM 0))))) (cmpT neS (fnA lenS (consA (rawM 0) nilA)) (cM (.int 4)))) (retM (cM (.bl false))) (nxM)) b e S
noncomputable def b_is_span_2 : SS := fun b e S => (asgM (varM 0) (gqM 4 (gsCons (gnM 1) (gsCons (gnM 2) (gsCons (gnM 3) (gsCons (gnM 4) (gsNil))))))) b e S
noncomputable def b_is_span_3 : SS := fun b e S => (ifM (orT (notT (tstM (callM m_is_integer 3 (consA (varM 1) (consA (cM (.int 1)) (consA (cM (.int 2147483647)) (nilA))))))) (notT (tstM (callM m_is_integer 3 (consA (varM 2) (consA (varM 1) (consA (cM (.int 2147483647)) (nilA)))))))) (retM (cM (.bl false))) (nxM)) b e S
noncomputable def b_is_span_4 : SS := fun b e S => (retM (callM m_is_ordered 4 (consA (varM 1) (consA (varM 2) (consA (varM 3) (consA (varM 4) (nilA))))))) b e S
noncomputable def m_is_span : SF := fnM 5 false (seqM b_is_span_0 (seqM b_is_span_1 (seqM b_is_span_2 (seqM b_is_span_3 (b_is_span_4)))))
noncomputable def b_want_line_0 : SS := fun b e S => (ifM (notT (tstM (callM m_is_integer 3 (consA (varM 0) (consA (cM (.int 1)) (consA (cM (.int 2147483647)) (nilA))))))) (raiseM "BadLine" ["line"] (consA (varM 0) (nilA))) (nxM)) b e S
noncomputable def m_want_line : SF := fnM 1 false (b_want_line_0)
noncomputable def b_Cursor___init___0 : SS := fun b e S => (setF "source" ["Cursor"] (rawM 0) (varM 1)) b e S
noncomputable def b_Cursor___init___1 : SS := fun b e S => (setF "at" ["Cursor"] (rawM 0) (varM 2)) b e S
noncomputable def m_Cursor___init__ : SF := iniM 3 (seqM b_Cursor___init___0 (b_Cursor___init___1))
noncomputable def b_Entry___init___0 : SS := fun b e S => (setF "at" ["Entry"] (rawM 0) (varM 1)) b e S
noncomputable def b_Entry___init___1 : SS := fun b e S => (setF "steps" ["Entry"] (rawM 0) (varM 2)) b e S
noncomputable def b_Entry___init___2 : SS := fun b e S => (setF "form" ["Entry"] (rawM 0) (varM 3)) b e S
noncomputable def b_Entry___init___3 : SS := fun b e S => (setF "span" ["Entry"] (rawM 0) (varM 4)) b e S
noncomputable def b_Entry___init___4 : SS := fun b e S => (setF "end" ["Entry"] (rawM 0) (varM 5)) b e S
noncomputable def m_Entry___init__ : SF := iniM 6 (seqM b_Entry___init___0 (seqM b_Entry___init___1 (seqM b_Entry___init___2 (seqM b_Entry___init___3 (b_Entry___init___4)))))
noncomputable def b_Cursor_next_byte_0 : SS := fun b e S => (ifM (cmpT geS (attrM "at" [("Cursor", none)] (rawM 0)) (fnA lenS (consA (attrM "source" [("Cursor", none)] (rawM 0)) nilA))) (raiseM "BadTable" ["at", "why"] (consA (fnA lenS (consA (attrM "source" [("Cursor", none)] (rawM 0)) nilA)) (consA (cM (.str (cps "torn"))) (nilA)))) (nxM)) b e S
noncomputable def b_Cursor_next_byte_1 : SS := fun b e S => (ifM (cmpT geS (op2 idxS (attrM "source" [("Cursor", none)] (rawM 0)) (attrM "at" [("Cursor", none)] (rawM 0))) (cM (.int 128))) (raiseM "BadTable" ["at", "why"] (consA (attrM "at" [("Cursor", none)] (rawM 0)) (consA (cM (.str (cps "inside"))) (nilA)))) (nxM)) b e S
noncomputable def b_Cursor_next_byte_2 : SS := fun b e S => (augF "at" ["Cursor"] addI (rawM 0) (cM (.int 1))) b e S
noncomputable def b_Cursor_next_byte_3 : SS := fun b e S => (retM (op2 idxS (attrM "source" [("Cursor", none)] (rawM 0)) (op2 subS (attrM "at" [("Cursor", none)] (rawM 0)) (cM (.int 1))))) b e S
noncomputable def m_Cursor_next_byte : SF := fnM 1 false (seqM b_Cursor_next_byte_0 (seqM b_Cursor_next_byte_1 (seqM b_Cursor_next_byte_2 (b_Cursor_next_byte_3))))
noncomputable def l_Cursor_number_0_2 : SS := fun b e S => (augX 2 mulI (cM (.int 64))) b e S
noncomputable def l_Cursor_number_0_1 : SS := fun b e S => seqM (augX 1 addI (op2 mulS (op2 bandS (rawM 4) (cM (.int 63))) (rawM 2))) l_Cursor_number_0_2 b e S
noncomputable def l_Cursor_number_0 : SS := fun b e S => seqM (ifM (walT 4 ltS (methM "next_byte" [("Cursor", 0, m_Cursor_next_byte)] (rawM 0) nilA) (cM (.int 64))) (retM (op2 addS (rawM 1) (op2 mulS (rawM 4) (rawM 2)))) (nxM)) l_Cursor_number_0_1 b e S
noncomputable def b_Cursor_number_0 : SS := fun b e S => (asgM (cM (.int 0)) (gnM 1)) b e S
noncomputable def b_Cursor_number_1 : SS := fun b e S => (asgM (cM (.int 1)) (gnM 2)) b e S
noncomputable def b_Cursor_number_2 : SS := fun b e S => (forM (rng1 (cM (.int 8))) (gnM 3) (l_Cursor_number_0)) b e S
noncomputable def b_Cursor_number_3 : SS := fun b e S => (raiseM "BadTable" ["at", "why"] (consA (op2 subS (attrM "at" [("Cursor", none)] (rawM 0)) (cM (.int 1))) (consA (cM (.str (cps "number"))) (nilA)))) b e S
noncomputable def m_Cursor_number : SF := fnM 5 false (seqM b_Cursor_number_0 (seqM b_Cursor_number_1 (seqM b_Cursor_number_2 (b_Cursor_number_3))))
noncomputable def b_Cursor_signed_0 : SS := fun b e S => (asgM (methM "number" [("Cursor", 0, m_Cursor_number)] (rawM 0) nilA) (gnM 1)) b e S
noncomputable def b_Cursor_signed_1 : SS := fun b e S => (retM (ifE (cmpT eqS (op2 bandS (rawM 1) (cM (.int 1))) (cM (.int 0))) (op2 shrS (rawM 1) (cM (.int 1))) (op1 negS (op2 shrS (rawM 1) (cM (.int 1)))))) b e S
noncomputable def m_Cursor_signed : SF := fnM 2 false (seqM b_Cursor_signed_0 (b_Cursor_signed_1))
noncomputable def b_maybe_column_0 : SS := fun b e S => (retM (ifE (cmpT eqS (rawM 0) (cM (.int 0))) (cM .non) (op2 subS (rawM 0) (cM (.int 1))))) b e S
noncomputable def m_maybe_column : SF := fnM 1 false (b_maybe_column_0)
noncomputable def b_raw_span_0 : SS := fun b e S => (ifM (cmpT ltS (rawM 1) (cM (.int 10))) (seqM (asgM (methM "next_byte" [("Cursor", 0, m_Cursor_next_byte)] (rawM 0) nilA) (gnM 5)) (seqM (asgM (op2 addS (op2 mulS (cM (.int 8)) (rawM 1)) (op2 shrS (rawM 5) (cM (.int 4)))) (gnM 4)) (retM (tupM (consA (varM 2) (consA (varM 2) (consA (varM 4) (consA (op2 addS (rawM 4) (op2 bandS (rawM 5) (cM (.int 15)))) (nilA))))))))) (nxM)) b e S
noncomputable def b_raw_span_1 : SS := fun b e S => (ifM (cmpT ltS (rawM 1) (cM (.int 13))) (seqM (augX 2 addI (op2 subS (rawM 1) (cM (.int 10)))) (seqM (asgM (methM "next_byte" [("Cursor", 0, m_Cursor_next_byte)] (rawM 0) nilA) (gnM 4)) (retM (tupM (consA (varM 2) (consA (varM 2) (consA (varM 4) (consA (methM "next_byte" [("Cursor", 0, m_Cursor_next_byte)] (rawM 0) nilA) (nilA))))))))) (nxM)) b e S
noncomputable def b_raw_span_2 : SS := fun b e S => (augX 2 addI (methM "signed" [("Cursor", 0, m_Cursor_signed)] (rawM 0) nilA)) b e S
noncomputable def b_raw_span_3 : SS := fun b e S => (ifM (cmpT eqS (rawM 1) (cM (.int 13))) (retM (tupM (consA (varM 2) (consA (varM 2) (consA (cM .non) (consA (cM .non) (nilA))))))) (nxM)) b e S
noncomputable def b_raw_span_4 : SS := fun b e S => (asgM (op2 addS (rawM 2) (methM "number" [("Cursor", 0, m_Cursor_number)] (rawM 0) nilA)) (gnM 3)) b e S
noncomputable def b_raw_span_5 : SS := fun b e S => (asgM (callM m_maybe_column 1 (consA (methM "number" [("Cursor", 0, m_Cursor_number)] (rawM 0) nilA) (nilA))) (gnM 4)) b e S
noncomputable def b_raw_span_6 : SS := fun b e S => (retM (tupM (consA (varM 2) (consA (varM 3) (consA (varM 4) (consA (callM m_maybe_column 1 (consA (methM "number" [("Cursor", 0, m_Cursor_number)] (rawM 0) nilA) (nilA))) (nilA))))))) b e S
noncomputable def m_raw_span : SF := fnM 6 false (seqM b_raw_span_0 (seqM b_raw_span_1 (seqM b_raw_span_2 (seqM b_raw_span_3 (seqM b_raw_span_4 (seqM b_raw_span_5 (b_raw_span_6)))))))
noncomputable def b_read_entry_0 : SS := fun b e S => (ifM (cmpT ltS (op2 idxS (rawM 0) (rawM 1)) (cM (.int 128))) (raiseM "BadTable" ["at", "why"] (consA (varM 1) (consA (cM (.str (cps "start"))) (nilA)))) (nxM)) b e S
noncomputable def b_read_entry_1 : SS := fun b e S => (asgM (op2 bandS (op2 shrS (op2 idxS (rawM 0) (rawM 1)) (cM (.int 3))) (cM (.int 15))) (gnM 3)) b e S
noncomputable def b_read_entry_2 : SS := fun b e S => (asgM (op2 addS (op2 bandS (op2 idxS (rawM 0) (rawM 1)) (cM (.int 7))) (cM (.int 1))) (gnM 4)) b e S
noncomputable def b_read_entry_3 : SS := fun b e S => (asgM (newM "Cursor" 2 false m_Cursor___init__ (consA (varM 0) (consA (op2 addS (rawM 1) (cM (.int 1))) (nilA)))) (gnM 5)) b e S
noncomputable def b_read_entry_4 : SS := fun b e S => (ifM (cmpT eqS (rawM 3) (cM (.int 15))) (retM (newM "Entry" 5 true m_Entry___init__ (consA (varM 1) (consA (varM 4) (consA (varM 3) (consA (cM .non) (consA (attrM "at" [("Cursor", none)] (rawM 5)) (nilA)))))))) (nxM)) b e S
noncomputable def b_read_entry_5 : SS := fun b e S => (asgM (callM m_raw_span 3 (consA (varM 5) (consA (varM 3) (consA (varM 2) (nilA))))) (gnM 6)) b e S
noncomputable def b_read_entry_6 : SS := fun b e S => (ifM (orT (notT (chnT leS leS (cM (.int 1)) (op2 idxS (rawM 6) (cM (.int 0))) (cM (.int 2147483647)))) (cmpT gtS (op2 idxS (rawM 6) (cM (.int 1))) (cM (.int 2147483647)))) (raiseM "BadTable" ["at", "why"] (consA (varM 1) (consA (cM (.str (cps "line"))) (nilA)))) (nxM)) b e S
noncomputable def b_read_entry_7 : SS := fun b e S => (ifM (notT (tstM (callM m_is_ordered 4 (consA (op2 idxS (rawM 6) (cM (.int 0))) (consA (op2 idxS (rawM 6) (cM (.int 1))) (consA (op2 idxS (rawM 6) (cM (.int 2))) (consA (op2 idxS (rawM 6) (cM (.int 3))) (nilA)))))))) (raiseM "BadTable" ["at", "why"] (consA (varM 1) (consA (cM (.str (cps "columns"))) (nilA)))) (nxM)) b e S
noncomputable def b_read_entry_8 : SS := fun b e S => (retM (newM "Entry" 5 true m_Entry___init__ (consA (varM 1) (consA (varM 4) (consA (varM 3) (consA (varM 6) (consA (attrM "at" [("Cursor", none)] (rawM 5)) (nilA)))))))) b e S
noncomputable def m_read_entry : SF := fnM 7 false (seqM b_read_entry_0 (seqM b_read_entry_1 (seqM b_read_entry_2 (seqM b_read_entry_3 (seqM b_read_entry_4 (seqM b_read_entry_5 (seqM b_read_entry_6 (seqM b_read_entry_7 (b_read_entry_8)))))))))
noncomputable def l_read_entries_0_3 : SS := fun b e S => (ifM (cmpT notS (attrM "span" [("Entry", none)] (rawM 5)) (cM .non)) (asgM (op2 idxS (attrM "span" [("Entry", none)] (rawM 5)) (cM (.int 0))) (gnM 4)) (nxM)) b e S
noncomputable def l_read_entries_0_2 : SS := fun b e S => seqM (asgM (attrM "end" [("Entry", none)] (rawM 5)) (gnM 3)) l_read_entries_0_3 b e S
noncomputable def l_read_entries_0_1 : SS := fun b e S => seqM (exprM (lmetM appL (rawM 2) (consA (varM 5) (nilA)))) l_read_entries_0_2 b e S
noncomputable def l_read_entries_0 : SS := fun b e S => seqM (asgM (callM m_read_entry 3 (consA (varM 0) (consA (varM 3) (consA (varM 4) (nilA))))) (gnM 5)) l_read_entries_0_1 b e S
noncomputable def b_read_entries_0 : SS := fun b e S => (asgM (ownM true (lstA (nilA))) (gnM 2)) b e S
noncomputable def b_read_entries_1 : SS := fun b e S => (asgM (cM (.int 0)) (gnM 3)) b e S
noncomputable def b_read_entries_2 : SS := fun b e S => (asgM (varM 1) (gnM 4)) b e S
noncomputable def b_read_entries_3 : SS := fun b e S => (whileM (cmpT ltS (rawM 3) (fnA lenS (consA (rawM 0) nilA))) (l_read_entries_0)) b e S
noncomputable def b_read_entries_4 : SS := fun b e S => (retM (varM 2)) b e S
noncomputable def m_read_entries : SF := fnM 6 false (seqM b_read_entries_0 (seqM b_read_entries_1 (seqM b_read_entries_2 (seqM b_read_entries_3 (b_read_entries_4)))))
noncomputable def b_is_byte_data_0 : SS := fun b e S => (ifM (tstM (boolM (isiM ty_bytes (rawM 0)))) (retM (cM (.bl true))) (nxM)) b e S
noncomputable def b_is_byte_data_1 : SS := fun b e S => (retM (andV (boolM (isiM tyt_list_tuple (rawM 0))) (fnA allS (consA (compV (itemsM (varM 0)) [1] (ctN 1) (yesT) (callM m_is_integer 3 (consA (varM 1) (consA (cM (.int 0)) (consA (cM (.int 255)) (nilA)))))) nilA)))) b e S
noncomputable def m_is_byte_data : SF := fnM 2 false (seqM b_is_byte_data_0 (b_is_byte_data_1))
noncomputable def l_Table___init___0 : SS := fun b e S => (exprM (lmetM extL (attrM "held_spans" [("Table", none)] (rawM 0)) (consA (op2 mulS (frzM (lstA (consA (attrM "span" [("Entry", none)] (rawM 3)) (nilA)))) (attrM "steps" [("Entry", none)] (rawM 3))) (nilA)))) b e S
noncomputable def b_Table___init___0 : SS := fun b e S => (ifM (notT (tstM (callM m_is_byte_data 1 (consA (varM 1) (nilA))))) (raiseM "BadTable" ["at", "why"] (consA (op1 negS (cM (.int 1))) (consA (cM (.str (cps "data"))) (nilA)))) (nxM)) b e S
noncomputable def b_Table___init___1 : SS := fun b e S => (exprM (callM m_want_line 1 (consA (varM 2) (nilA)))) b e S
noncomputable def b_Table___init___2 : SS := fun b e S => (setF "held_data" ["Table"] (rawM 0) (fnA bytS (consA (rawM 1) nilA))) b e S
noncomputable def b_Table___init___3 : SS := fun b e S => (setF "held_line" ["Table"] (rawM 0) (varM 2)) b e S
noncomputable def b_Table___init___4 : SS := fun b e S => (setF "read" ["Table"] (rawM 0) (callM m_read_entries 2 (consA (attrM "held_data" [("Table", none)] (rawM 0)) (consA (varM 2) (nilA))))) b e S
noncomputable def b_Table___init___5 : SS := fun b e S => (setF "held_spans" ["Table"] (rawM 0) (ownM true (lstA (nilA)))) b e S
noncomputable def b_Table___init___6 : SS := fun b e S => (forM (itemsM (attrM "read" [("Table", none)] (rawM 0))) (gnM 3) (l_Table___init___0)) b e S
noncomputable def m_Table___init__ : SF := iniM 4 (seqM b_Table___init___0 (seqM b_Table___init___1 (seqM b_Table___init___2 (seqM b_Table___init___3 (seqM b_Table___init___4 (seqM b_Table___init___5 (b_Table___init___6)))))))
noncomputable def l__law_spans_0_2 : SS := fun b e S => (asgM (op2 addS (rawM 2) (op2 mulS (frzM (lstA (consA (varM 5) (nilA)))) (callM m__law_one 2 (consA (varM 0) (consA (frzM (lstA (consA (cM (.int 1)) (consA (cM (.int 1)) (consA (cM (.int 2)) (consA (cM (.int 7)) (consA (cM (.int 8)) (consA (cM (.int 9)) (consA (cM (.int 16)) (consA (cM (.int 17)) (consA (op2 addS (cM (.int 1)) (callM m__law_draw 2 (consA (varM 0) (consA (cM (.int 30)) (nilA))))) (nilA)))))))))))) (nilA)))))) (gnM 2)) b e S
noncomputable def l__law_spans_0_1 : SS := fun b e S => seqM (ifM (cmpT notS (rawM 5) (cM .non)) (asgM (op2 idxS (rawM 5) (cM (.int 0))) (gnM 3)) (nxM)) l__law_spans_0_2 b e S
noncomputable def l__law_spans_0 : SS := fun b e S => seqM (asgM (callM m__law_span 2 (consA (varM 0) (consA (varM 3) (nilA)))) (gnM 5)) l__law_spans_0_1 b e S
noncomputable def b__law_spans_0 : SS := fun b e S => (asgM (frzM (lstA (nilA))) (gnM 2)) b e S
noncomputable def b__law_spans_1 : SS := fun b e S => (asgM (op2 addS (cM (.int 1)) (callM m__law_draw 2 (consA (varM 0) (consA (cM (.int 50)) (nilA))))) (gnM 3)) b e S
noncomputable def b__law_spans_2 : SS := fun b e S => (forM (rng1 (callM m__law_draw 2 (consA (varM 0) (consA (varM 1) (nilA))))) (gnM 4) (l__law_spans_0)) b e S
noncomputable def b__law_spans_3 : SS := fun b e S => (retM (varM 2)) b e S
noncomputable def m__law_spans : SF := fnM 6 false (seqM b__law_spans_0 (seqM b__law_spans_1 (seqM b__law_spans_2 (b__law_spans_3))))
noncomputable def b_Table_data_0 : SS := fun b e S => (retM (attrM "held_data" [("Table", none)] (rawM 0))) b e S
noncomputable def m_Table_data : SF := fnM 1 false (b_Table_data_0)
noncomputable def l__law_groups_0_1 : SS := fun b e S => (asgM (op2 fdivS (rawM 0) (cM (.int 64))) (gnM 0)) b e S
noncomputable def l__law_groups_0 : SS := fun b e S => seqM (exprM (lmetM appL (rawM 1) (consA (op2 addS (op2 modS (fnA intS (consA (rawM 0) nilA)) (cM (.int 64))) (cM (.int 64))) (nilA)))) l__law_groups_0_1 b e S
noncomputable def b__law_groups_0 : SS := fun b e S => (asgM (ownM true (lstA (nilA))) (gnM 1)) b e S
noncomputable def b__law_groups_1 : SS := fun b e S => (whileM (cmpT geS (rawM 0) (cM (.int 64))) (l__law_groups_0)) b e S
noncomputable def b__law_groups_2 : SS := fun b e S => (retM (op2 addS (rawM 1) (frzM (lstA (consA (varM 0) (nilA)))))) b e S
noncomputable def m__law_groups : SF := fnM 2 false (seqM b__law_groups_0 (seqM b__law_groups_1 (b__law_groups_2)))
noncomputable def b__law_folded_0 : SS := fun b e S => (retM (ifE (cmpT geS (rawM 0) (cM (.int 0))) (op2 mulS (cM (.int 2)) (rawM 0)) (op2 subS (cM (.int 1)) (op2 mulS (cM (.int 2)) (rawM 0))))) b e S
noncomputable def m__law_folded : SF := fnM 1 false (b__law_folded_0)
noncomputable def b__law_column_number_0 : SS := fun b e S => (retM (ifE (cmpT isS (rawM 0) (cM .non)) (cM (.int 0)) (op2 addS (rawM 0) (cM (.int 1))))) b e S
noncomputable def m__law_column_number : SF := fnM 1 false (b__law_column_number_0)
noncomputable def b_Table_first_line_0 : SS := fun b e S => (retM (attrM "held_line" [("Table", none)] (rawM 0))) b e S
noncomputable def m_Table_first_line : SF := fnM 1 false (b_Table_first_line_0)
noncomputable def l_want_spans_0 : SS := fun b e S => (ifM (notT (tstM (callM m_is_span 1 (consA (varM 2) (nilA))))) (raiseM "BadSpan" ["at"] (consA (varM 1) (nilA))) (nxM)) b e S
noncomputable def b_want_spans_0 : SS := fun b e S => (ifM (notT (tstM (boolM (isiM tyt_list_tuple (rawM 0))))) (raiseM "BadSpan" ["at"] (consA (op1 negS (cM (.int 1))) (nilA))) (nxM)) b e S
noncomputable def b_want_spans_1 : SS := fun b e S => (forM (enumM (varM 0)) (gqM 2 (gsCons (gnM 1) (gsCons (gnM 2) (gsNil)))) (l_want_spans_0)) b e S
noncomputable def m_want_spans : SF := fnM 3 false (seqM b_want_spans_0 (b_want_spans_1))
noncomputable def l_runs_of_0 : SS := fun b e S => (ifM (orT (cmpT eqS (op2 addS (rawM 3) (cM (.int 1))) (fnA lenS (consA (rawM 0) nilA))) (cmpT neS (op2 idxS (rawM 0) (op2 addS (rawM 3) (cM (.int 1)))) (rawM 4))) (seqM (exprM (lmetM appL (rawM 1) (consA (tupM (consA (varM 2) (consA (op2 addS (rawM 3) (cM (.int 1))) (consA (varM 4) (nilA))))) (nilA)))) (asgM (op2 addS (rawM 3) (cM (.int 1))) (gnM 2))) (nxM)) b e S
noncomputable def b_runs_of_0 : SS := fun b e S => (asgM (ownM true (lstA (nilA))) (gnM 1)) b e S
noncomputable def b_runs_of_1 : SS := fun b e S => (asgM (cM (.int 0)) (gnM 2)) b e S
noncomputable def b_runs_of_2 : SS := fun b e S => (forM (enumM (varM 0)) (gqM 2 (gsCons (gnM 3) (gsCons (gnM 4) (gsNil)))) (l_runs_of_0)) b e S
noncomputable def b_runs_of_3 : SS := fun b e S => (retM (varM 1)) b e S
noncomputable def m_runs_of : SF := fnM 5 false (seqM b_runs_of_0 (seqM b_runs_of_1 (seqM b_runs_of_2 (b_runs_of_3))))
noncomputable def l_groups_of_0_2 : SS := fun b e S => (asgM (op2 shrS (rawM 2) (cM (.int 6))) (gnM 2)) b e S
noncomputable def l_groups_of_0_1 : SS := fun b e S => seqM (exprM (lmetM appL (rawM 1) (consA (op2 bandS (rawM 2) (cM (.int 63))) (nilA)))) l_groups_of_0_2 b e S
noncomputable def l_groups_of_0 : SS := fun b e S => seqM (augS addI (rawM 1) (op1 negS (cM (.int 1))) (cM (.int 64))) l_groups_of_0_1 b e S
noncomputable def b_groups_of_0 : SS := fun b e S => (asgM (ownM true (lstA (consA (op2 bandS (rawM 0) (cM (.int 63))) (nilA)))) (gnM 1)) b e S
noncomputable def b_groups_of_1 : SS := fun b e S => (asgM (op2 shrS (rawM 0) (cM (.int 6))) (gnM 2)) b e S
noncomputable def b_groups_of_2 : SS := fun b e S => (whileM (cmpT gtS (rawM 2) (cM (.int 0))) (l_groups_of_0)) b e S
noncomputable def b_groups_of_3 : SS := fun b e S => (retM (varM 1)) b e S
noncomputable def m_groups_of : SF := fnM 3 false (seqM b_groups_of_0 (seqM b_groups_of_1 (seqM b_groups_of_2 (b_groups_of_3))))
noncomputable def b_folded_0 : SS := fun b e S => (retM (ifE (cmpT geS (rawM 0) (cM (.int 0))) (op2 mulS (cM (.int 2)) (rawM 0)) (op2 subS (cM (.int 1)) (op2 mulS (cM (.int 2)) (rawM 0))))) b e S
noncomputable def m_folded : SF := fnM 1 false (b_folded_0)
noncomputable def b_body_of_0 : SS := fun b e S => (ifM (cmpT isS (rawM 0) (cM .non)) (retM (tupM (consA (cM (.int 15)) (consA (frzM (lstA (nilA))) (nilA))))) (nxM)) b e S
noncomputable def b_body_of_1 : SS := fun b e S => (asgM (varM 0) (gqM 4 (gsCons (gnM 4) (gsCons (gnM 5) (gsCons (gnM 6) (gsCons (gnM 7) (gsNil))))))) b e S
noncomputable def b_body_of_2 : SS := fun b e S => (asgM (op2 subS (rawM 4) (rawM 1)) (gnM 2)) b e S
noncomputable def b_body_of_3 : SS := fun b e S => (ifM (cmpT isS (rawM 6) (cM .non)) (retM (tupM (consA (cM (.int 13)) (consA (callM m_groups_of 1 (consA (callM m_folded 1 (consA (varM 2) (nilA))) (nilA))) (nilA))))) (nxM)) b e S
noncomputable def b_body_of_4 : SS := fun b e S => (asgM (boolM (cmpT eqS (rawM 4) (rawM 5))) (gnM 3)) b e S
noncomputable def b_body_of_5 : SS := fun b e S => (ifM (andT (tstM (rawM 3)) (andT (cmpT eqS (rawM 2) (cM (.int 0))) (andT (cmpT ltS (rawM 6) (cM (.int 80))) (cmpT ltS (op2 subS (rawM 7) (rawM 6)) (cM (.int 16)))))) (retM (tupM (consA (op2 shrS (rawM 6) (cM (.int 3))) (consA (frzM (lstA (consA (op2 subS (op2 addS (op2 mulS (op2 bandS (rawM 6) (cM (.int 7))) (cM (.int 16))) (rawM 7)) (rawM 6)) (nilA)))) (nilA))))) (nxM)) b e S
noncomputable def b_body_of_6 : SS := fun b e S => (ifM (andT (tstM (rawM 3)) (andT (chnT leS leS (cM (.int 0)) (rawM 2) (cM (.int 2))) (cmpT ltS (rawM 7) (cM (.int 128))))) (retM (tupM (consA (op2 addS (cM (.int 10)) (rawM 2)) (consA (frzM (lstA (consA (varM 6) (consA (varM 7) (nilA))))) (nilA))))) (nxM)) b e S
noncomputable def b_body_of_7 : SS := fun b e S => (retM (tupM (consA (cM (.int 14)) (consA (op2 addS (op2 addS (op2 addS (callM m_groups_of 1 (consA (callM m_folded 1 (consA (varM 2) (nilA))) (nilA))) (callM m_groups_of 1 (consA (op2 subS (rawM 5) (rawM 4)) (nilA)))) (callM m_groups_of 1 (consA (op2 addS (rawM 6) (cM (.int 1))) (nilA)))) (callM m_groups_of 1 (consA (op2 addS (rawM 7) (cM (.int 1))) (nilA)))) (nilA))))) b e S
noncomputable def m_body_of : SF := fnM 8 false (seqM b_body_of_0 (seqM b_body_of_1 (seqM b_body_of_2 (seqM b_body_of_3 (seqM b_body_of_4 (seqM b_body_of_5 (seqM b_body_of_6 (b_body_of_7))))))))
noncomputable def l_write_run_0_5 : SS := fun b e S => (ifM (cmpT notS (rawM 1) (cM .non)) (asgM (op2 idxS (rawM 1) (cM (.int 0))) (gnM 2)) (nxM)) b e S
noncomputable def l_write_run_0_4 : SS := fun b e S => seqM (augX 0 subI (rawM 4)) l_write_run_0_5 b e S
noncomputable def l_write_run_0_3 : SS := fun b e S => seqM (exprM (lmetM extL (rawM 3) (consA (rawM 6) (nilA)))) l_write_run_0_4 b e S
noncomputable def l_write_run_0_2 : SS := fun b e S => seqM (exprM (lmetM appL (rawM 3) (consA (op2 subS (op2 addS (op2 addS (cM (.int 128)) (op2 mulS (cM (.int 8)) (rawM 5))) (rawM 4)) (cM (.int 1))) (nilA)))) l_write_run_0_3 b e S
noncomputable def l_write_run_0_1 : SS := fun b e S => seqM (asgM (callM m_body_of 2 (consA (varM 1) (consA (varM 2) (nilA)))) (gqM 2 (gsCons (gnM 5) (gsCons (gnM 6) (gsNil))))) l_write_run_0_2 b e S
noncomputable def l_write_run_0 : SS := fun b e S => seqM (asgM (fnA min2S (consA (rawM 0) (consA (cM (.int 8)) nilA))) (gnM 4)) l_write_run_0_1 b e S
noncomputable def b_write_run_0 : SS := fun b e S => (asgM (ownM true (lstA (nilA))) (gnM 3)) b e S
noncomputable def b_write_run_1 : SS := fun b e S => (whileM (cmpT gtS (rawM 0) (cM (.int 0))) (l_write_run_0)) b e S
noncomputable def b_write_run_2 : SS := fun b e S => (retM (varM 3)) b e S
noncomputable def m_write_run : SF := fnM 7 false (seqM b_write_run_0 (seqM b_write_run_1 (b_write_run_2)))
noncomputable def l_write_spans_0_1 : SS := fun b e S => (ifM (cmpT notS (rawM 6) (cM .non)) (asgM (op2 idxS (rawM 6) (cM (.int 0))) (gnM 3)) (nxM)) b e S
noncomputable def l_write_spans_0 : SS := fun b e S => seqM (exprM (lmetM extL (rawM 2) (consA (callM m_write_run 3 (consA (op2 subS (rawM 5) (rawM 4)) (consA (varM 6) (consA (varM 3) (nilA))))) (nilA)))) l_write_spans_0_1 b e S
noncomputable def b_write_spans_0 : SS := fun b e S => (asgM (ownM true (lstA (nilA))) (gnM 2)) b e S
noncomputable def b_write_spans_1 : SS := fun b e S => (asgM (varM 1) (gnM 3)) b e S
noncomputable def b_write_spans_2 : SS := fun b e S => (forM (itemsM (callM m_runs_of 1 (consA (varM 0) (nilA)))) (gqM 3 (gsCons (gnM 4) (gsCons (gnM 5) (gsCons (gnM 6) (gsNil))))) (l_write_spans_0)) b e S
noncomputable def b_write_spans_3 : SS := fun b e S => (retM (fnA bytS (consA (rawM 2) nilA))) b e S
noncomputable def m_write_spans : SF := fnM 7 false (seqM b_write_spans_0 (seqM b_write_spans_1 (seqM b_write_spans_2 (b_write_spans_3))))
noncomputable def b_Table_of_0 : SS := fun b e S => (exprM (callM m_want_spans 1 (consA (varM 0) (nilA)))) b e S
noncomputable def b_Table_of_1 : SS := fun b e S => (exprM (callM m_want_line 1 (consA (varM 1) (nilA)))) b e S
noncomputable def b_Table_of_2 : SS := fun b e S => (retM (newM "Table" 2 true m_Table___init__ (consA (callM m_write_spans 2 (consA (varM 0) (consA (varM 1) (nilA)))) (consA (varM 1) (nilA))))) b e S
noncomputable def m_Table_of : SF := fnM 2 false (seqM b_Table_of_0 (seqM b_Table_of_1 (b_Table_of_2)))
noncomputable def b_Table_spans_0 : SS := fun b e S => (retM (frzM (listA (attrM "held_spans" [("Table", none)] (rawM 0))))) b e S
noncomputable def m_Table_spans : SF := fnM 1 false (b_Table_spans_0)
noncomputable def b_shortest_0 : SS := fun b e S => (retM (callM m_Table_of 2 (consA (methM "spans" [("Table", 0, m_Table_spans)] (rawM 0) nilA) (consA (attrM "first_line" [("Table", some m_Table_first_line)] (rawM 0)) (nilA))))) b e S
noncomputable def m_shortest : SF := fnM 1 false (b_shortest_0)
noncomputable def b_rebased_0 : SS := fun b e S => (retM (callM m_Table_of 2 (consA (methM "spans" [("Table", 0, m_Table_spans)] (rawM 0) nilA) (consA (varM 1) (nilA))))) b e S
noncomputable def m_rebased : SF := fnM 2 false (b_rebased_0)
noncomputable def b_Table_step_count_0 : SS := fun b e S => (retM (fnA lenS (consA (attrM "held_spans" [("Table", none)] (rawM 0)) nilA))) b e S
noncomputable def m_Table_step_count : SF := fnM 1 false (b_Table_step_count_0)
noncomputable def l__law_number_at_0_4 : SS := fun b e S => (ifM (cmpT ltS (op2 idxS (rawM 0) (op2 addS (rawM 1) (rawM 4))) (cM (.int 64))) (retM (tupM (consA (cM (.str (cps "number"))) (consA (varM 2) (consA (op2 addS (op2 addS (rawM 1) (rawM 4)) (cM (.int 1))) (nilA)))))) (nxM)) b e S
noncomputable def l__law_number_at_0_3 : SS := fun b e S => seqM (asgM (op2 mulS (rawM 3) (cM (.int 64))) (gnM 3)) l__law_number_at_0_4 b e S
noncomputable def l__law_number_at_0_2 : SS := fun b e S => seqM (asgM (op2 addS (rawM 2) (op2 mulS (op2 modS (fnA intS (consA (op2 idxS (rawM 0) (op2 addS (rawM 1) (rawM 4))) nilA)) (cM (.int 64))) (rawM 3))) (gnM 2)) l__law_number_at_0_3 b e S
noncomputable def l__law_number_at_0_1 : SS := fun b e S => seqM (ifM (cmpT geS (op2 idxS (rawM 0) (op2 addS (rawM 1) (rawM 4))) (cM (.int 128))) (retM (tupM (consA (cM (.str (cps "bad"))) (consA (op2 addS (rawM 1) (rawM 4)) (consA (cM (.str (cps "inside"))) (nilA)))))) (nxM)) l__law_number_at_0_2 b e S
noncomputable def l__law_number_at_0 : SS := fun b e S => seqM (ifM (cmpT geS (op2 addS (rawM 1) (rawM 4)) (fnA lenS (consA (rawM 0) nilA))) (retM (tupM (consA (cM (.str (cps "bad"))) (consA (fnA lenS (consA (rawM 0) nilA)) (consA (cM (.str (cps "torn"))) (nilA)))))) (nxM)) l__law_number_at_0_1 b e S
noncomputable def b__law_number_at_0 : SS := fun b e S => (asgM (cM (.int 0)) (gnM 2)) b e S
noncomputable def b__law_number_at_1 : SS := fun b e S => (asgM (cM (.int 1)) (gnM 3)) b e S
noncomputable def b__law_number_at_2 : SS := fun b e S => (forM (rng1 (cM (.int 8))) (gnM 4) (l__law_number_at_0)) b e S
noncomputable def b__law_number_at_3 : SS := fun b e S => (retM (tupM (consA (cM (.str (cps "bad"))) (consA (op2 addS (rawM 1) (cM (.int 7))) (consA (cM (.str (cps "number"))) (nilA)))))) b e S
noncomputable def m__law_number_at : SF := fnM 5 false (seqM b__law_number_at_0 (seqM b__law_number_at_1 (seqM b__law_number_at_2 (b__law_number_at_3))))
noncomputable def l__law_numbers_at_0_3 : SS := fun b e S => (asgM (op2 idxS (rawM 5) (cM (.int 2))) (gnM 1)) b e S
noncomputable def l__law_numbers_at_0_2 : SS := fun b e S => seqM (exprM (lmetM appL (rawM 3) (consA (op2 idxS (rawM 5) (cM (.int 1))) (nilA)))) l__law_numbers_at_0_3 b e S
noncomputable def l__law_numbers_at_0_1 : SS := fun b e S => seqM (ifM (cmpT eqS (op2 idxS (rawM 5) (cM (.int 0))) (cM (.str (cps "bad")))) (retM (varM 5)) (nxM)) l__law_numbers_at_0_2 b e S
noncomputable def l__law_numbers_at_0 : SS := fun b e S => seqM (asgM (callM m__law_number_at 2 (consA (varM 0) (consA (varM 1) (nilA)))) (gnM 5)) l__law_numbers_at_0_1 b e S
noncomputable def b__law_numbers_at_0 : SS := fun b e S => (asgM (ownM true (lstA (nilA))) (gnM 3)) b e S
noncomputable def b__law_numbers_at_1 : SS := fun b e S => (forM (rng1 (rawM 2)) (gnM 4) (l__law_numbers_at_0)) b e S
noncomputable def b__law_numbers_at_2 : SS := fun b e S => (retM (tupM (consA (cM (.str (cps "numbers"))) (consA (varM 3) (consA (varM 1) (nilA)))))) b e S
noncomputable def m__law_numbers_at : SF := fnM 6 false (seqM b__law_numbers_at_0 (seqM b__law_numbers_at_1 (b__law_numbers_at_2)))
noncomputable def l__law_bytes_at_0_1 : SS := fun b e S => (ifM (cmpT geS (op2 idxS (rawM 0) (op2 addS (rawM 1) (rawM 3))) (cM (.int 128))) (retM (tupM (consA (cM (.str (cps "bad"))) (consA (op2 addS (rawM 1) (rawM 3)) (consA (cM (.str (cps "inside"))) (nilA)))))) (nxM)) b e S
noncomputable def l__law_bytes_at_0 : SS := fun b e S => seqM (ifM (cmpT geS (op2 addS (rawM 1) (rawM 3)) (fnA lenS (consA (rawM 0) nilA))) (retM (tupM (consA (cM (.str (cps "bad"))) (consA (fnA lenS (consA (rawM 0) nilA)) (consA (cM (.str (cps "torn"))) (nilA)))))) (nxM)) l__law_bytes_at_0_1 b e S
noncomputable def b__law_bytes_at_0 : SS := fun b e S => (forM (rng1 (rawM 2)) (gnM 3) (l__law_bytes_at_0)) b e S
noncomputable def b__law_bytes_at_1 : SS := fun b e S => (retM (tupM (consA (cM (.str (cps "numbers"))) (consA (slcM (rawM 0) (some (rawM 1)) (some (op2 addS (rawM 1) (rawM 2)))) (consA (op2 addS (rawM 1) (rawM 2)) (nilA)))))) b e S
noncomputable def m__law_bytes_at : SF := fnM 4 false (seqM b__law_bytes_at_0 (b__law_bytes_at_1))
noncomputable def b__law_span_of_0 : SS := fun b e S => (ifM (cmpT ltS (rawM 0) (cM (.int 10))) (seqM (asgM (op2 addS (op2 mulS (cM (.int 8)) (rawM 0)) (op2 fdivS (op2 idxS (rawM 1) (cM (.int 0))) (cM (.int 16)))) (gnM 5)) (retM (tupM (consA (varM 2) (consA (varM 2) (consA (varM 5) (consA (op2 addS (rawM 5) (op2 modS (fnA intS (consA (op2 idxS (rawM 1) (cM (.int 0))) nilA)) (cM (.int 16)))) (nilA)))))))) (nxM)) b e S
noncomputable def b__law_span_of_1 : SS := fun b e S => (ifM (cmpT ltS (rawM 0) (cM (.int 13))) (retM (tupM (consA (op2 subS (op2 addS (rawM 2) (rawM 0)) (cM (.int 10))) (consA (op2 subS (op2 addS (rawM 2) (rawM 0)) (cM (.int 10))) (consA (op2 idxS (rawM 1) (cM (.int 0))) (consA (op2 idxS (rawM 1) (cM (.int 1))) (nilA))))))) (nxM)) b e S
noncomputable def b__law_span_of_2 : SS := fun b e S => (asgM (ifE (cmpT eqS (op2 modS (fnA intS (consA (op2 idxS (rawM 1) (cM (.int 0))) nilA)) (cM (.int 2))) (cM (.int 0))) (op2 fdivS (op2 idxS (rawM 1) (cM (.int 0))) (cM (.int 2))) (op2 subS (cM (.int 0)) (op2 fdivS (op2 idxS (rawM 1) (cM (.int 0))) (cM (.int 2))))) (gnM 3)) b e S
noncomputable def b__law_span_of_3 : SS := fun b e S => (ifM (cmpT eqS (rawM 0) (cM (.int 13))) (retM (tupM (consA (op2 addS (rawM 2) (rawM 3)) (consA (op2 addS (rawM 2) (rawM 3)) (consA (cM .non) (consA (cM .non) (nilA))))))) (nxM)) b e S
noncomputable def b__law_span_of_4 : SS := fun b e S => (asgM (compV (itemsM (slcM (rawM 1) (some (cM (.int 2))) (none))) [6] (ctN 6) (yesT) (ifE (cmpT eqS (rawM 6) (cM (.int 0))) (cM .non) (op2 subS (rawM 6) (cM (.int 1))))) (gnM 4)) b e S
noncomputable def b__law_span_of_5 : SS := fun b e S => (retM (tupM (consA (op2 addS (rawM 2) (rawM 3)) (consA (op2 addS (op2 addS (rawM 2) (rawM 3)) (op2 idxS (rawM 1) (cM (.int 1)))) (consA (op2 idxS (rawM 4) (cM (.int 0))) (consA (op2 idxS (rawM 4) (cM (.int 1))) (nilA))))))) b e S
noncomputable def m__law_span_of : SF := fnM 7 false (seqM b__law_span_of_0 (seqM b__law_span_of_1 (seqM b__law_span_of_2 (seqM b__law_span_of_3 (seqM b__law_span_of_4 (b__law_span_of_5))))))
noncomputable def b__law_wrong_0 : SS := fun b e S => (asgM (varM 0) (gqM 4 (gsCons (gnM 1) (gsCons (gnM 2) (gsCons (gnM 3) (gsCons (gnM 4) (gsNil))))))) b e S
noncomputable def b__law_wrong_1 : SS := fun b e S => (ifM (orT (notT (chnT leS leS (cM (.int 1)) (rawM 1) (cM (.int 2147483647)))) (cmpT gtS (rawM 2) (cM (.int 2147483647)))) (retM (cM (.str (cps "line")))) (nxM)) b e S
noncomputable def b__law_wrong_2 : SS := fun b e S => (ifM (orT (cmpT neS (boolM (cmpT isS (rawM 3) (cM .non))) (boolM (cmpT isS (rawM 4) (cM .non)))) (andT (cmpT isS (rawM 3) (cM .non)) (cmpT neS (rawM 1) (rawM 2)))) (retM (cM (.str (cps "columns")))) (nxM)) b e S
noncomputable def b__law_wrong_3 : SS := fun b e S => (ifM (andT (cmpT notS (rawM 3) (cM .non)) (cmpT gtS (fnA max2S (consA (rawM 3) (consA (rawM 4) nilA))) (cM (.int 2147483647)))) (retM (cM (.str (cps "columns")))) (nxM)) b e S
noncomputable def b__law_wrong_4 : SS := fun b e S => (retM (ifE (andT (cmpT notS (rawM 3) (cM .non)) (andT (cmpT eqS (rawM 1) (rawM 2)) (cmpT ltS (rawM 4) (rawM 3)))) (cM (.str (cps "columns"))) (cM .non))) b e S
noncomputable def m__law_wrong : SF := fnM 5 false (seqM b__law_wrong_0 (seqM b__law_wrong_1 (seqM b__law_wrong_2 (seqM b__law_wrong_3 (b__law_wrong_4)))))
noncomputable def l__law_read_0_7 : SS := fun b e S => (asgM (op2 idxS (rawM 6) (cM (.int 2))) (gnM 3)) b e S
noncomputable def l__law_read_0_6 : SS := fun b e S => seqM (asgM (op2 addS (rawM 2) (op2 mulS (frzM (lstA (consA (varM 5) (nilA)))) (op2 addS (op2 modS (fnA intS (consA (op2 idxS (rawM 0) (rawM 3)) nilA)) (cM (.int 8))) (cM (.int 1))))) (gnM 2)) l__law_read_0_7 b e S
noncomputable def l__law_read_0_5 : SS := fun b e S => seqM (ifM (cmpT ltS (rawM 4) (cM (.int 15))) (seqM (asgM (callM m__law_span_of 3 (consA (varM 4) (consA (op2 idxS (rawM 6) (cM (.int 1))) (consA (varM 1) (nilA))))) (gnM 5)) (seqM (ifM (cmpT notS (callM m__law_wrong 1 (consA (varM 5) (nilA))) (cM .non)) (retM (tupM (consA (cM (.str (cps "bad"))) (consA (varM 3) (consA (callM m__law_wrong 1 (consA (varM 5) (nilA))) (nilA)))))) (nxM)) (asgM (op2 idxS (rawM 5) (cM (.int 0))) (gnM 1)))) (nxM)) l__law_read_0_6 b e S
noncomputable def l__law_read_0_4 : SS := fun b e S => seqM (asgM (cM .non) (gnM 5)) l__law_read_0_5 b e S
noncomputable def l__law_read_0_3 : SS := fun b e S => seqM (ifM (cmpT eqS (op2 idxS (rawM 6) (cM (.int 0))) (cM (.str (cps "bad")))) (retM (varM 6)) (nxM)) l__law_read_0_4 b e S
noncomputable def l__law_read_0_2 : SS := fun b e S => seqM (ifM (cmpT gtS (rawM 4) (cM (.int 12))) (asgM (callM m__law_numbers_at 3 (consA (varM 0) (consA (op2 addS (rawM 3) (cM (.int 1))) (consA (op2 idxS (frzM (lstA (consA (cM (.int 1)) (consA (cM (.int 4)) (consA (cM (.int 0)) (nilA)))))) (op2 subS (rawM 4) (cM (.int 13)))) (nilA))))) (gnM 6)) (asgM (callM m__law_bytes_at 3 (consA (varM 0) (consA (op2 addS (rawM 3) (cM (.int 1))) (consA (op2 addS (cM (.int 1)) (fnA intS (consA (boolM (cmpT gtS (rawM 4) (cM (.int 9)))) nilA))) (nilA))))) (gnM 6))) l__law_read_0_3 b e S
noncomputable def l__law_read_0_1 : SS := fun b e S => seqM (asgM (op2 modS (op2 fdivS (op2 idxS (rawM 0) (rawM 3)) (cM (.int 8))) (cM (.int 16))) (gnM 4)) l__law_read_0_2 b e S
noncomputable def l__law_read_0 : SS := fun b e S => seqM (ifM (cmpT ltS (op2 idxS (rawM 0) (rawM 3)) (cM (.int 128))) (retM (tupM (consA (cM (.str (cps "bad"))) (consA (varM 3) (consA (cM (.str (cps "start"))) (nilA)))))) (nxM)) l__law_read_0_1 b e S
noncomputable def b__law_read_0 : SS := fun b e S => (asgM (frzM (lstA (nilA))) (gnM 2)) b e S
noncomputable def b__law_read_1 : SS := fun b e S => (asgM (cM (.int 0)) (gnM 3)) b e S
noncomputable def b__law_read_2 : SS := fun b e S => (whileM (cmpT ltS (rawM 3) (fnA lenS (consA (rawM 0) nilA))) (l__law_read_0)) b e S
noncomputable def b__law_read_3 : SS := fun b e S => (retM (tupM (consA (cM (.str (cps "spans"))) (consA (varM 2) (nilA))))) b e S
noncomputable def m__law_read : SF := fnM 7 false (seqM b__law_read_0 (seqM b__law_read_1 (seqM b__law_read_2 (b__law_read_3))))
noncomputable def l_want_lines_0 : SS := fun b e S => (ifM (cmpT gtS (rawM 2) (cM (.int 2147483647))) (raiseM "BadLine" ["line"] (consA (varM 2) (nilA))) (nxM)) b e S
noncomputable def l_want_lines_1 : SS := fun b e S => (ifM (cmpT notS (rawM 1) (cM .non)) (forM (itemsM (slcTM (rawM 1) (none) (some (cM (.int 2))))) (gnM 2) (l_want_lines_0)) (nxM)) b e S
noncomputable def b_want_lines_0 : SS := fun b e S => (forM (itemsM (varM 0)) (gnM 1) (l_want_lines_1)) b e S
noncomputable def m_want_lines : SF := fnM 3 false (b_want_lines_0)
noncomputable def b_moved_span_0 : SS := fun b e S => (ifM (orT (cmpT isS (rawM 0) (cM .non)) (andT (cmpT gtS (rawM 2) (cM (.int 0))) (andT (cmpT ltS (op2 idxS (rawM 0) (cM (.int 0))) (op2 addS (rawM 1) (rawM 2))) (cmpT geS (op2 idxS (rawM 0) (cM (.int 1))) (rawM 1))))) (retM (cM .non)) (nxM)) b e S
noncomputable def b_moved_span_1 : SS := fun b e S => (asgM (varM 0) (gqM 4 (gsCons (gnM 4) (gsCons (gnM 5) (gsCons (gnM 6) (gsCons (gnM 7) (gsNil))))))) b e S
noncomputable def b_moved_span_2 : SS := fun b e S => (ifM (cmpT geS (rawM 4) (op2 addS (rawM 1) (rawM 2))) (augX 4 addI (rawM 3)) (nxM)) b e S
noncomputable def b_moved_span_3 : SS := fun b e S => (ifM (cmpT geS (rawM 5) (op2 addS (rawM 1) (rawM 2))) (augX 5 addI (rawM 3)) (nxM)) b e S
noncomputable def b_moved_span_4 : SS := fun b e S => (retM (tupM (consA (varM 4) (consA (varM 5) (consA (varM 6) (consA (varM 7) (nilA))))))) b e S
noncomputable def m_moved_span : SF := fnM 8 false (seqM b_moved_span_0 (seqM b_moved_span_1 (seqM b_moved_span_2 (seqM b_moved_span_3 (b_moved_span_4)))))
noncomputable def l_moved_0 : SS := fun b e S => (ifM (notT (tstM (callM m_is_integer 3 (consA (varM 4) (consA (cM (.int 0)) (consA (cM (.int 2147483647)) (nilA))))))) (raiseM "BadCount" ["many"] (consA (varM 4) (nilA))) (nxM)) b e S
noncomputable def b_moved_0 : SS := fun b e S => (exprM (callM m_want_line 1 (consA (varM 1) (nilA)))) b e S
noncomputable def b_moved_1 : SS := fun b e S => (forM (itemsM (tupM (consA (varM 2) (consA (varM 3) (nilA))))) (gnM 4) (l_moved_0)) b e S
noncomputable def b_moved_2 : SS := fun b e S => (asgM (compV (itemsM (methM "spans" [("Table", 0, m_Table_spans)] (rawM 0) nilA)) [6] (ctN 6) (yesT) (callM m_moved_span 4 (consA (varM 6) (consA (varM 1) (consA (varM 2) (consA (op2 subS (rawM 3) (rawM 2)) (nilA))))))) (gnM 5)) b e S
noncomputable def b_moved_3 : SS := fun b e S => (exprM (callM m_want_lines 1 (consA (varM 5) (nilA)))) b e S
noncomputable def b_moved_4 : SS := fun b e S => (retM (callM m_Table_of 2 (consA (varM 5) (consA (attrM "first_line" [("Table", some m_Table_first_line)] (rawM 0)) (nilA))))) b e S
noncomputable def m_moved : SF := fnM 7 false (seqM b_moved_0 (seqM b_moved_1 (seqM b_moved_2 (seqM b_moved_3 (b_moved_4)))))
noncomputable def b_joined_0 : SS := fun b e S => (retM (callM m_Table_of 2 (consA (op2 addS (methM "spans" [("Table", 0, m_Table_spans)] (rawM 0) nilA) (methM "spans" [("Table", 0, m_Table_spans)] (rawM 1) nilA)) (consA (attrM "first_line" [("Table", some m_Table_first_line)] (rawM 0)) (nilA))))) b e S
noncomputable def m_joined : SF := fnM 2 false (b_joined_0)
noncomputable def b_want_step_0 : SS := fun b e S => (ifM (notT (tstM (callM m_is_integer 3 (consA (varM 0) (consA (varM 1) (consA (varM 2) (nilA))))))) (raiseM "BadStep" ["step"] (consA (varM 0) (nilA))) (nxM)) b e S
noncomputable def m_want_step : SF := fnM 3 false (b_want_step_0)
noncomputable def b_cut_0 : SS := fun b e S => (exprM (callM m_want_step 3 (consA (varM 1) (consA (cM (.int 0)) (consA (attrM "step_count" [("Table", some m_Table_step_count)] (rawM 0)) (nilA)))))) b e S
noncomputable def b_cut_1 : SS := fun b e S => (exprM (callM m_want_step 3 (consA (varM 2) (consA (varM 1) (consA (attrM "step_count" [("Table", some m_Table_step_count)] (rawM 0)) (nilA)))))) b e S
noncomputable def b_cut_2 : SS := fun b e S => (retM (callM m_Table_of 2 (consA (slcM (methM "spans" [("Table", 0, m_Table_spans)] (rawM 0) nilA) (some (rawM 1)) (some (rawM 2))) (consA (attrM "first_line" [("Table", some m_Table_first_line)] (rawM 0)) (nilA))))) b e S
noncomputable def m_cut : SF := fnM 3 false (seqM b_cut_0 (seqM b_cut_1 (b_cut_2)))
noncomputable def l__law_groups_K_0_1 : SS := fun b e S => (asgM (op2 fdivS (rawM 0) (cM (.int 64))) (gnM 0)) b e S
noncomputable def l__law_groups_K_0 : SS := fun b e S => seqM (exprM (lmetM appL (rawM 1) (consA (op2 addS (op2 modS (fnA intS (consA (rawM 0) nilA)) (cM (.int 64))) (cM (.int 64))) (nilA)))) l__law_groups_K_0_1 b e S
noncomputable def b__law_groups_K_0 : SS := fun b e S => (asgM (ownM true (lstA (nilA))) (gnM 1)) b e S
noncomputable def b__law_groups_K_1 : SS := fun b e S => (whileM (cmpT geS (rawM 0) (cM (.int 64))) (l__law_groups_K_0)) b e S
noncomputable def b__law_groups_K_2 : SS := fun b e S => (retM (ownM true (addA (rawM 1) (frzM (lstA (consA (varM 0) (nilA))))))) b e S
noncomputable def m__law_groups_K : SF := fnM 2 true (seqM b__law_groups_K_0 (seqM b__law_groups_K_1 (b__law_groups_K_2)))
noncomputable def l__law_padded_0_1 : SS := fun b e S => (exprM (lmetM appL (rawM 2) (consA (cM (.int 0)) (nilA)))) b e S
noncomputable def l__law_padded_0 : SS := fun b e S => seqM (asgM (op2 addS (op2 idxS (rawM 2) (op1 negS (cM (.int 1)))) (cM (.int 64))) (gsM (rawM 2) (op1 negS (cM (.int 1))))) l__law_padded_0_1 b e S
noncomputable def b__law_padded_0 : SS := fun b e S => (asgM (callM m__law_groups_K 1 (consA (varM 1) (nilA))) (gnM 2)) b e S
noncomputable def b__law_padded_1 : SS := fun b e S => (forM (rng1 (callM m__law_one 2 (consA (varM 0) (consA (frzM (lstA (consA (cM (.int 0)) (consA (cM (.int 0)) (consA (cM (.int 0)) (consA (cM (.int 1)) (consA (op2 subS (cM (.int 8)) (fnA lenS (consA (rawM 2) nilA))) (nilA)))))))) (nilA))))) (gnM 3) (l__law_padded_0)) b e S
noncomputable def b__law_padded_2 : SS := fun b e S => (retM (varM 2)) b e S
noncomputable def m__law_padded : SF := fnM 4 false (seqM b__law_padded_0 (seqM b__law_padded_1 (b__law_padded_2)))
noncomputable def b__law_loose_entry_0 : SS := fun b e S => (ifM (cmpT isS (rawM 1) (cM .non)) (retM (frzM (lstA (consA (op2 subS (op2 addS (cM (.int 248)) (rawM 3)) (cM (.int 1))) (nilA))))) (nxM)) b e S
noncomputable def b__law_loose_entry_1 : SS := fun b e S => (asgM (varM 1) (gqM 4 (gsCons (gnM 6) (gsCons (gnM 7) (gsCons (gnM 8) (gsCons (gnM 9) (gsNil))))))) b e S
noncomputable def b__law_loose_entry_2 : SS := fun b e S => (asgM (callM m__law_padded 2 (consA (varM 0) (consA (callM m__law_folded 1 (consA (op2 subS (rawM 6) (rawM 2)) (nilA))) (nilA)))) (gnM 4)) b e S
noncomputable def b__law_loose_entry_3 : SS := fun b e S => (asgM (ownM true (lstA (consA (op2 addS (op2 addS (frzM (lstA (consA (op2 subS (op2 addS (cM (.int 240)) (rawM 3)) (cM (.int 1))) (nilA)))) (rawM 4)) (callM m__law_padded 2 (consA (varM 0) (consA (op2 subS (rawM 7) (rawM 6)) (nilA))))) (nilA)))) (gnM 5)) b e S
noncomputable def b__law_loose_entry_4 : SS := fun b e S => (asgM (op2 addS (op2 idxS (rawM 5) (cM (.int 0))) (callM m__law_padded 2 (consA (varM 0) (consA (callM m__law_column_number 1 (consA (varM 8) (nilA))) (nilA))))) (gsM (rawM 5) (cM (.int 0)))) b e S
noncomputable def b__law_loose_entry_5 : SS := fun b e S => (asgM (op2 addS (op2 idxS (rawM 5) (cM (.int 0))) (callM m__law_padded 2 (consA (varM 0) (consA (callM m__law_column_number 1 (consA (varM 9) (nilA))) (nilA))))) (gsM (rawM 5) (cM (.int 0)))) b e S
noncomputable def b__law_loose_entry_6 : SS := fun b e S => (ifM (cmpT isS (rawM 8) (cM .non)) (seqM (exprM (lmetM appL (rawM 5) (consA (op2 addS (frzM (lstA (consA (op2 subS (op2 addS (cM (.int 232)) (rawM 3)) (cM (.int 1))) (nilA)))) (rawM 4)) (nilA)))) (retM (callM m__law_one 2 (consA (varM 0) (consA (varM 5) (nilA)))))) (nxM)) b e S
noncomputable def b__law_loose_entry_7 : SS := fun b e S => (ifM (andT (chnT eqS eqS (rawM 6) (rawM 7) (rawM 2)) (andT (cmpT ltS (rawM 8) (cM (.int 80))) (cmpT ltS (op2 subS (rawM 9) (rawM 8)) (cM (.int 16))))) (exprM (lmetM appL (rawM 5) (consA (frzM (lstA (consA (op2 subS (op2 addS (op2 addS (cM (.int 128)) (op2 mulS (op2 fdivS (rawM 8) (cM (.int 8))) (cM (.int 8)))) (rawM 3)) (cM (.int 1))) (consA (op2 subS (op2 addS (op2 mulS (op2 modS (fnA intS (consA (rawM 8) nilA)) (cM (.int 8))) (cM (.int 16))) (rawM 9)) (rawM 8)) (nilA))))) (nilA)))) (nxM)) b e S
noncomputable def b__law_loose_entry_8 : SS := fun b e S => (ifM (andT (cmpT eqS (rawM 6) (rawM 7)) (andT (chnT leS ltS (cM (.int 0)) (op2 subS (rawM 6) (rawM 2)) (cM (.int 3))) (cmpT ltS (rawM 9) (cM (.int 128))))) (exprM (lmetM appL (rawM 5) (consA (frzM (lstA (consA (op2 subS (op2 addS (op2 addS (cM (.int 208)) (op2 mulS (cM (.int 8)) (op2 subS (rawM 6) (rawM 2)))) (rawM 3)) (cM (.int 1))) (consA (varM 8) (consA (varM 9) (nilA)))))) (nilA)))) (nxM)) b e S
noncomputable def b__law_loose_entry_9 : SS := fun b e S => (retM (callM m__law_one 2 (consA (varM 0) (consA (varM 5) (nilA))))) b e S
noncomputable def m__law_loose_entry : SF := fnM 10 false (seqM b__law_loose_entry_0 (seqM b__law_loose_entry_1 (seqM b__law_loose_entry_2 (seqM b__law_loose_entry_3 (seqM b__law_loose_entry_4 (seqM b__law_loose_entry_5 (seqM b__law_loose_entry_6 (seqM b__law_loose_entry_7 (seqM b__law_loose_entry_8 (b__law_loose_entry_9))))))))))
noncomputable def l__law_written_0 : SS := fun b e S => (asgM (op2 addS (rawM 7) (cM (.int 1))) (gnM 7)) b e S
noncomputable def l__law_written_1_6 : SS := fun b e S => (ifM (cmpT notS (rawM 6) (cM .non)) (asgM (op2 idxS (rawM 6) (cM (.int 0))) (gnM 4)) (nxM)) b e S
noncomputable def l__law_written_1_5 : SS := fun b e S => seqM (asgM (op2 addS (rawM 5) (rawM 7)) (gnM 5)) l__law_written_1_6 b e S
noncomputable def l__law_written_1_4 : SS := fun b e S => seqM (asgM (op2 addS (rawM 3) (callM m__law_loose_entry 4 (consA (varM 0) (consA (varM 6) (consA (varM 4) (consA (varM 7) (nilA))))))) (gnM 3)) l__law_written_1_5 b e S
noncomputable def l__law_written_1_3 : SS := fun b e S => seqM (whileM (andT (cmpT ltS (rawM 7) (rawM 8)) (andT (cmpT ltS (op2 addS (rawM 5) (rawM 7)) (fnA lenS (consA (rawM 1) nilA))) (cmpT eqS (op2 idxS (rawM 1) (op2 addS (rawM 5) (rawM 7))) (rawM 6)))) (l__law_written_0)) l__law_written_1_4 b e S
noncomputable def l__law_written_1_2 : SS := fun b e S => seqM (asgM (op2 addS (cM (.int 1)) (callM m__law_draw 2 (consA (varM 0) (consA (cM (.int 8)) (nilA))))) (gnM 8)) l__law_written_1_3 b e S
noncomputable def l__law_written_1_1 : SS := fun b e S => seqM (asgM (cM (.int 1)) (gnM 7)) l__law_written_1_2 b e S
noncomputable def l__law_written_1 : SS := fun b e S => seqM (asgM (op2 idxS (rawM 1) (rawM 5)) (gnM 6)) l__law_written_1_1 b e S
noncomputable def b__law_written_0 : SS := fun b e S => (asgM (frzM (lstA (nilA))) (gnM 3)) b e S
noncomputable def b__law_written_1 : SS := fun b e S => (asgM (varM 2) (gnM 4)) b e S
noncomputable def b__law_written_2 : SS := fun b e S => (asgM (cM (.int 0)) (gnM 5)) b e S
noncomputable def b__law_written_3 : SS := fun b e S => (whileM (cmpT ltS (rawM 5) (fnA lenS (consA (rawM 1) nilA))) (l__law_written_1)) b e S
noncomputable def b__law_written_4 : SS := fun b e S => (retM (varM 3)) b e S
noncomputable def m__law_written : SF := fnM 9 false (seqM b__law_written_0 (seqM b__law_written_1 (seqM b__law_written_2 (seqM b__law_written_3 (b__law_written_4)))))
noncomputable def b__law_table_0 : SS := fun b e S => (ifM (cmpT eqS (callM m__law_draw 2 (consA (varM 0) (consA (cM (.int 2)) (nilA)))) (cM (.int 0))) (retM (callM m_Table_of 2 (consA (varM 1) (consA (varM 2) (nilA))))) (nxM)) b e S
noncomputable def b__law_table_1 : SS := fun b e S => (retM (newM "Table" 2 true m_Table___init__ (consA (callM m__law_written 3 (consA (varM 0) (consA (varM 1) (consA (varM 2) (nilA))))) (consA (varM 2) (nilA))))) b e S
noncomputable def m__law_table : SF := fnM 3 false (seqM b__law_table_0 (b__law_table_1))
noncomputable def l__law_loose_0_4 : SS := fun b e S => (ifM (cmpT notS (rawM 6) (cM .non)) (asgM (op2 idxS (rawM 6) (cM (.int 0))) (gnM 4)) (nxM)) b e S
noncomputable def l__law_loose_0_3 : SS := fun b e S => seqM (asgM (op2 addS (rawM 5) (rawM 8)) (gnM 5)) l__law_loose_0_4 b e S
noncomputable def l__law_loose_0_2 : SS := fun b e S => seqM (exprM (lmetM appL (rawM 3) (consA (tupM (consA (varM 5) (consA (varM 8) (consA (varM 6) (consA (callM m__law_loose_entry 4 (consA (varM 0) (consA (varM 6) (consA (varM 4) (consA (varM 8) (nilA)))))) (nilA)))))) (nilA)))) l__law_loose_0_3 b e S
noncomputable def l__law_loose_0_1 : SS := fun b e S => seqM (asgM (op2 addS (cM (.int 1)) (callM m__law_draw 2 (consA (varM 0) (consA (cM (.int 8)) (nilA))))) (gnM 8)) l__law_loose_0_2 b e S
noncomputable def l__law_loose_0 : SS := fun b e S => seqM (ifM (cmpT gtS (callM m__law_draw 2 (consA (varM 0) (consA (cM (.int 3)) (nilA)))) (cM (.int 0))) (asgM (callM m__law_span 2 (consA (varM 0) (consA (varM 4) (nilA)))) (gnM 6)) (nxM)) l__law_loose_0_1 b e S
noncomputable def b__law_loose_0 : SS := fun b e S => (asgM (ownM true (lstA (nilA))) (gnM 3)) b e S
noncomputable def b__law_loose_1 : SS := fun b e S => (asgM (varM 1) (gnM 4)) b e S
noncomputable def b__law_loose_2 : SS := fun b e S => (asgM (cM (.int 0)) (gnM 5)) b e S
noncomputable def b__law_loose_3 : SS := fun b e S => (asgM (cM .non) (gnM 6)) b e S
noncomputable def b__law_loose_4 : SS := fun b e S => (forM (rng1 (callM m__law_draw 2 (consA (varM 0) (consA (varM 2) (nilA))))) (gnM 7) (l__law_loose_0)) b e S
noncomputable def b__law_loose_5 : SS := fun b e S => (retM (varM 3)) b e S
noncomputable def m__law_loose : SF := fnM 9 false (seqM b__law_loose_0 (seqM b__law_loose_1 (seqM b__law_loose_2 (seqM b__law_loose_3 (seqM b__law_loose_4 (b__law_loose_5))))))
noncomputable def b_Table___eq___0 : SS := fun b e S => (retM (andV (boolM (isiM (tyC "Table") (rawM 1))) (boolM (cmpT eqS (attrM "held_spans" [("Table", none)] (rawM 0)) (attrM "held_spans" [("Table", none)] (rawM 1)))))) b e S
noncomputable def m_Table___eq__ : SF := fnM 2 false (b_Table___eq___0)
end Mir.Sh
end

/-! MirEval -/
section
set_option linter.all false
/-! MirEval: meanings worked out by simp: one lemma a word, only where all arguments are there. -/
namespace Mir



/-- stands behind a bind, so that simp leaves what follows alone -/
structure Tag {α : Type} (k : α) : Type where
def R.bnd {α β : Type} (r : R α) (k : α → Env → Sto → R β) (_ : Tag k := ⟨⟩) : R β := r.bind k
@[simp] theorem R.bnd_ok {α β : Type} (a : α) (e : Env) (S : Sto) (k : α → Env → Sto → R β) (t : Tag k) : (R.ok a e S).bnd k t = k a e S := id rfl
@[simp] theorem R.bnd_exc {α β : Type} (c : String) (fs : List (String × D)) (e : Env) (S : Sto) (k : α → Env → Sto → R β) (t : Tag k) : (R.exc c fs e S).bnd k t = .exc c fs e S := id rfl
@[simp] theorem R.bnd_stuck {α β : Type} (k : α → Env → Sto → R β) (t : Tag k) : (R.stuck : R α).bnd k t = .stuck := id rfl

def rawR (o : Option (Option D)) (e : Env) (S : Sto) : R D := match o with
  | some (some d) => .ok d e S
  | _ => .stuck
@[simp] theorem rawR_some (d : D) (e : Env) (S : Sto) : rawR (some (some d)) e S = .ok d e S := id rfl
@[simp] theorem rawR_nn (e : Env) (S : Sto) : rawR (some none) e S = .stuck := id rfl
@[simp] theorem rawR_n (e : Env) (S : Sto) : rawR none e S = .stuck := id rfl
@[simp] theorem rawM_ap (i b : Nat) (e : Env) (S : Sto) : rawM i b e S = rawR e[i]? e S := by
  unfold rawM rawR
  cases e[i]? with
  | none => rfl
  | some o => cases o <;> rfl
def D.isRef : D → Bool
  | .ref _ => true
  | _ => false
@[simp] theorem isRef_non : D.isRef .non = false := id rfl
@[simp] theorem isRef_bl (k : Bool) : D.isRef (.bl k) = false := id rfl
@[simp] theorem isRef_int (k : Int) : D.isRef (.int k) = false := id rfl
@[simp] theorem isRef_str (k : List Nat) : D.isRef (.str k) = false := id rfl
@[simp] theorem isRef_byt (k : List Nat) : D.isRef (.byt k) = false := id rfl
@[simp] theorem isRef_lst (k : List D) : D.isRef (.lst k) = false := id rfl
@[simp] theorem isRef_frz (k : List D) : D.isRef (.frz k) = false := id rfl
@[simp] theorem isRef_tup (k : List D) : D.isRef (.tup k) = false := id rfl
@[simp] theorem isRef_ins (c : String) (k : List (String × D)) : D.isRef (.ins c k) = false := id rfl
@[simp] theorem isRef_exn (c : String) (k : List (String × D)) : D.isRef (.exn c k) = false := id rfl
@[simp] theorem isRef_gl (c : String) : D.isRef (.gl c) = false := id rfl
@[simp] theorem isRef_ty (c : String) : D.isRef (.ty c) = false := id rfl
@[simp] theorem isRef_edi : D.isRef .edi = false := id rfl
def varO (i j : Nat) (o : Option Ob) (e : Env) (S : Sto) : R D := match o with
  | some (.lst true xs) => .ok (.lst xs) (e.set i (some (.lst xs))) (S.set j .dead)
  | _ => .ok (.ref j) e S
@[simp] theorem varO_own (i j : Nat) (xs : List D) (e : Env) (S : Sto) : varO i j (some (.lst true xs)) e S = .ok (.lst xs) (e.set i (some (.lst xs))) (S.set j .dead) := id rfl
@[simp] theorem varO_sh (i j : Nat) (xs : List D) (e : Env) (S : Sto) : varO i j (some (.lst false xs)) e S = .ok (.ref j) e S := id rfl
@[simp] theorem varO_ins (i j : Nat) (c : String) (fs : List (String × D)) (e : Env) (S : Sto) : varO i j (some (.ins c fs)) e S = .ok (.ref j) e S := id rfl
def varR (i : Nat) (o : Option (Option D)) (e : Env) (S : Sto) : R D := match o with
  | some (some (.ref j)) => varO i j S[j]? e S
  | some (some d) => .ok d e S
  | _ => .stuck
@[simp] theorem varR_ref (i j : Nat) (e : Env) (S : Sto) : varR i (some (some (.ref j))) e S = varO i j S[j]? e S := id rfl
@[simp] theorem varR_nn (i : Nat) (e : Env) (S : Sto) : varR i (some none) e S = .stuck := id rfl
@[simp] theorem varR_n (i : Nat) (e : Env) (S : Sto) : varR i none e S = .stuck := id rfl
@[simp] theorem varR_d (i : Nat) (d : D) (e : Env) (S : Sto) (h : d.isRef = false) : varR i (some (some d)) e S = .ok d e S := by
  cases d <;> first | rfl | cases h
@[simp] theorem varR_non (i : Nat) (e : Env) (S : Sto) : varR i (some (some (.non : D))) e S = .ok (.non : D) e S := id rfl
@[simp] theorem varR_bl (k : Bool) (i : Nat) (e : Env) (S : Sto) : varR i (some (some (.bl k : D))) e S = .ok (.bl k : D) e S := id rfl
@[simp] theorem varR_int (k : Int) (i : Nat) (e : Env) (S : Sto) : varR i (some (some (.int k : D))) e S = .ok (.int k : D) e S := id rfl
@[simp] theorem varR_str (k : List Nat) (i : Nat) (e : Env) (S : Sto) : varR i (some (some (.str k : D))) e S = .ok (.str k : D) e S := id rfl
@[simp] theorem varR_byt (k : List Nat) (i : Nat) (e : Env) (S : Sto) : varR i (some (some (.byt k : D))) e S = .ok (.byt k : D) e S := id rfl
@[simp] theorem varR_lst (k : List D) (i : Nat) (e : Env) (S : Sto) : varR i (some (some (.lst k : D))) e S = .ok (.lst k : D) e S := id rfl
@[simp] theorem varR_frz (k : List D) (i : Nat) (e : Env) (S : Sto) : varR i (some (some (.frz k : D))) e S = .ok (.frz k : D) e S := id rfl
@[simp] theorem varR_tup (k : List D) (i : Nat) (e : Env) (S : Sto) : varR i (some (some (.tup k : D))) e S = .ok (.tup k : D) e S := id rfl
@[simp] theorem varR_ins (c : String) (k : List (String × D)) (i : Nat) (e : Env) (S : Sto) : varR i (some (some (.ins c k : D))) e S = .ok (.ins c k : D) e S := id rfl
@[simp] theorem varR_exn (c : String) (k : List (String × D)) (i : Nat) (e : Env) (S : Sto) : varR i (some (some (.exn c k : D))) e S = .ok (.exn c k : D) e S := id rfl
@[simp] theorem varR_gl (k : String) (i : Nat) (e : Env) (S : Sto) : varR i (some (some (.gl k : D))) e S = .ok (.gl k : D) e S := id rfl
@[simp] theorem varR_ty (k : String) (i : Nat) (e : Env) (S : Sto) : varR i (some (some (.ty k : D))) e S = .ok (.ty k : D) e S := id rfl
@[simp] theorem varR_edi (i : Nat) (e : Env) (S : Sto) : varR i (some (some (.edi : D))) e S = .ok (.edi : D) e S := id rfl
@[simp] theorem varM_ap (i b : Nat) (e : Env) (S : Sto) : varM i b e S = varR i e[i]? e S := by
  unfold varM varR
  cases e[i]? with
  | none => rfl
  | some o =>
    cases o with
    | none => rfl
    | some d =>
      cases d with
      | ref j =>
        dsimp only
        unfold varO
        cases S[j]? with
        | none => rfl
        | some ob =>
          cases ob with
          | lst w xs => cases w <;> rfl
          | _ => rfl
      | _ => rfl
@[simp] theorem cM_ap (d : D) (b : Nat) (e : Env) (S : Sto) : cM d b e S = .ok d e S := id rfl
@[simp] theorem op1_ap (f : Sto → D → Option D) (a : SE) (b : Nat) (e : Env) (S : Sto) : op1 f a b e S = (a b e S).bnd fun x e S => R.opt (f S x) e S := id rfl
@[simp] theorem op2_ap (f : Sto → D → D → Option D) (a c : SE) (b : Nat) (e : Env) (S : Sto) : op2 f a c b e S = (a b e S).bnd fun x e S => (c b e S).bnd fun y e S => R.opt (f S x y) e S := id rfl
@[simp] theorem nilA_ap (b : Nat) (e : Env) (S : Sto) : nilA b e S = .ok [] e S := id rfl
@[simp] theorem consA_ap (a : SE) (r : SA) (b : Nat) (e : Env) (S : Sto) : consA a r b e S = (a b e S).bnd fun x e S => (r b e S).bnd fun xs e S => .ok (x :: xs) e S := id rfl
@[simp] theorem fnA_ap (f : Sto → List D → Option D) (a : SA) (b : Nat) (e : Env) (S : Sto) : fnA f a b e S = (a b e S).bnd fun xs e S => R.opt (f S xs) e S := id rfl
@[simp] theorem lstA_ap (a : SA) (b : Nat) (e : Env) (S : Sto) : lstA a b e S = (a b e S).bnd fun xs e S => if xs.length ≤ line then .ok xs e S else .stuck := id rfl
@[simp] theorem frzM_ap (a : SA) (b : Nat) (e : Env) (S : Sto) : frzM a b e S = (a b e S).bnd fun xs e S => .ok (.lst xs) e S := id rfl
@[simp] theorem ownM_ap (w : Bool) (a : SA) (b : Nat) (e : Env) (S : Sto) : ownM w a b e S = (a b e S).bnd fun xs e S => .ok (.ref S.length) e (S ++ [.lst w xs]) := id rfl
@[simp] theorem tupM_ap (a : SA) (b : Nat) (e : Env) (S : Sto) : tupM a b e S = (a b e S).bnd fun xs e S => if xs.length ≤ line then .ok (.tup xs) e S else .stuck := id rfl
@[simp] theorem callM_ap (m : SF) (k : Nat) (a : SA) (b : Nat) (e : Env) (S : Sto) : callM m k a b e S = (a b e S).bnd fun xs e S => if xs.length = k then (m xs S).out e else .stuck := id rfl
@[simp] theorem tstM_ap (a : SE) (b : Nat) (e : Env) (S : Sto) : tstM a b e S = (a b e S).bnd fun x e S => R.opt (truth S x) e S := id rfl
@[simp] theorem cmpT_ap (f : Sto → D → D → Option Bool) (a c : SE) (b : Nat) (e : Env) (S : Sto) : cmpT f a c b e S = (a b e S).bnd fun x e S => (c b e S).bnd fun y e S => R.opt (f S x y) e S := id rfl
@[simp] theorem chnT_ap (f f' : Sto → D → D → Option Bool) (a c d : SE) (b : Nat) (e : Env) (S : Sto) : chnT f f' a c d b e S = (a b e S).bnd fun x e S => (c b e S).bnd fun y e S => (R.opt (f S x y) e S).bnd fun k e S => if k = true then (d b e S).bnd fun z e S => R.opt (f' S y z) e S else .ok false e S := id rfl
@[simp] theorem notT_ap (t : ST) (b : Nat) (e : Env) (S : Sto) : notT t b e S = (t b e S).bnd fun k e S => .ok (!k) e S := id rfl
@[simp] theorem andT_ap (t u : ST) (b : Nat) (e : Env) (S : Sto) : andT t u b e S = (t b e S).bnd fun k e S => if k = true then u b e S else .ok false e S := id rfl
@[simp] theorem orT_ap (t u : ST) (b : Nat) (e : Env) (S : Sto) : orT t u b e S = (t b e S).bnd fun k e S => if k = true then .ok true e S else u b e S := id rfl
@[simp] theorem ifE_ap (t : ST) (x y : SE) (b : Nat) (e : Env) (S : Sto) : ifE t x y b e S = (t b e S).bnd fun k e S => if k = true then x b e S else y b e S := id rfl
@[simp] theorem boolM_ap (t : ST) (b : Nat) (e : Env) (S : Sto) : boolM t b e S = (t b e S).bnd fun k e S => .ok (.bl k) e S := id rfl
@[simp] theorem orV_ap (a c : SE) (b : Nat) (e : Env) (S : Sto) : orV a c b e S = (a b e S).bnd fun x e S => (R.opt (truth S x) e S).bnd fun k e S => if k = true then .ok x e S else c b e S := id rfl
@[simp] theorem andV_ap (a c : SE) (b : Nat) (e : Env) (S : Sto) : andV a c b e S = (a b e S).bnd fun x e S => (R.opt (truth S x) e S).bnd fun k e S => if k = true then c b e S else .ok x e S := id rfl
@[simp] theorem notV_ap (a : SE) (b : Nat) (e : Env) (S : Sto) : notV a b e S = (a b e S).bnd fun x e S => (R.opt (truth S x) e S).bnd fun k e S => .ok (.bl (!k)) e S := id rfl
@[simp] theorem nxM_ap (b : Nat) (e : Env) (S : Sto) : nxM b e S = .ok .nx e S := id rfl
def seqR (f : Fl) (t : SS) (b : Nat) (e : Env) (S : Sto) : R Fl := match f with
  | .nx => t b e S
  | f => .ok f e S
@[simp] theorem seqR_nx (t : SS) (b : Nat) (e : Env) (S : Sto) : seqR .nx t b e S = t b e S := id rfl
@[simp] theorem seqR_ret (d : D) (t : SS) (b : Nat) (e : Env) (S : Sto) : seqR (.ret d) t b e S = .ok (.ret d) e S := id rfl
@[simp] theorem seqR_bk (t : SS) (b : Nat) (e : Env) (S : Sto) : seqR .bk t b e S = .ok .bk e S := id rfl
@[simp] theorem seqR_ct (t : SS) (b : Nat) (e : Env) (S : Sto) : seqR .ct t b e S = .ok .ct e S := id rfl
@[simp] theorem seqM_ap (s t : SS) (b : Nat) (e : Env) (S : Sto) : seqM s t b e S = (s b e S).bnd fun f e S => seqR f t b e S := id rfl
@[simp] theorem exprM_ap (a : SE) (b : Nat) (e : Env) (S : Sto) : exprM a b e S = (a b e S).bnd fun _ e S => .ok .nx e S := id rfl
@[simp] theorem retM_ap (a : SE) (b : Nat) (e : Env) (S : Sto) : retM a b e S = (a b e S).bnd fun d e S => .ok (.ret d) e S := id rfl
@[simp] theorem retN_ap (b : Nat) (e : Env) (S : Sto) : retN b e S = .ok (.ret .non) e S := id rfl
@[simp] theorem brkM_ap (b : Nat) (e : Env) (S : Sto) : brkM b e S = .ok .bk e S := id rfl
@[simp] theorem cntM_ap (b : Nat) (e : Env) (S : Sto) : cntM b e S = .ok .ct e S := id rfl
@[simp] theorem ifM_ap (t : ST) (x y : SS) (b : Nat) (e : Env) (S : Sto) : ifM t x y b e S = (t b e S).bnd fun k e S => if k = true then x b e S else y b e S := id rfl
@[simp] theorem gnM_ap (i b : Nat) (d : D) (e : Env) (S : Sto) : gnM i b d e S = if i < e.length then .ok () (e.set i (some d)) S else .stuck := id rfl
@[simp] theorem gsNil_ap (b : Nat) (e : Env) (S : Sto) : gsNil b [] e S = .ok () e S := id rfl
@[simp] theorem gsCons_ap (g : SG) (r : Nat → List D → Env → Sto → R Unit) (b : Nat) (d : D) (ds : List D) (e : Env) (S : Sto) : gsCons g r b (d :: ds) e S = (g b d e S).bnd fun _ e S => r b ds e S := id rfl
def gqR (n b : Nat) (gs : Nat → List D → Env → Sto → R Unit) (d : D) (e : Env) (S : Sto) : R Unit := match d with
  | .tup xs => if xs.length = n then gs b xs e S else .stuck
  | .lst xs => if xs.length = n then gs b xs e S else .stuck
  | .frz xs => if xs.length = n then gs b xs e S else .stuck
  | _ => .stuck
@[simp] theorem gqR_tup (n b : Nat) (gs : Nat → List D → Env → Sto → R Unit) (xs : List D) (e : Env) (S : Sto) : gqR n b gs (.tup xs) e S = if xs.length = n then gs b xs e S else .stuck := id rfl
@[simp] theorem gqR_lst (n b : Nat) (gs : Nat → List D → Env → Sto → R Unit) (xs : List D) (e : Env) (S : Sto) : gqR n b gs (.lst xs) e S = if xs.length = n then gs b xs e S else .stuck := id rfl
@[simp] theorem gqR_frz (n b : Nat) (gs : Nat → List D → Env → Sto → R Unit) (xs : List D) (e : Env) (S : Sto) : gqR n b gs (.frz xs) e S = if xs.length = n then gs b xs e S else .stuck := id rfl
@[simp] theorem gqM_ap (n : Nat) (gs : Nat → List D → Env → Sto → R Unit) (b : Nat) (d : D) (e : Env) (S : Sto) : gqM n gs b d e S = gqR n b gs (deref S d) e S := id rfl
@[simp] theorem asgM_ap (a : SE) (g : SG) (b : Nat) (e : Env) (S : Sto) : asgM a g b e S = (a b e S).bnd fun d e S => (g b d e S).bnd fun _ e S => .ok .nx e S := id rfl
def gsO (b k : Nat) (j : Int) (d : D) (o : Option Ob) (e : Env) (S : Sto) : R Unit := match o with
  | some (.lst w xs) => (match ixD xs.length j with
    | some p => if mayPut b k d = true then .ok () e (S.set k (.lst w (xs.set p d))) else .stuck
    | none => .stuck)
  | _ => .stuck
def gsP (b k : Nat) (w : Bool) (xs : List D) (d : D) (o : Option Nat) (e : Env) (S : Sto) : R Unit := match o with
  | some p => if mayPut b k d = true then .ok () e (S.set k (.lst w (xs.set p d))) else .stuck
  | none => .stuck
@[simp] theorem gsP_some (b k : Nat) (w : Bool) (xs : List D) (d : D) (p : Nat) (e : Env) (S : Sto) : gsP b k w xs d (some p) e S = if mayPut b k d = true then .ok () e (S.set k (.lst w (xs.set p d))) else .stuck := id rfl
@[simp] theorem gsO_lst (b k : Nat) (j : Int) (d : D) (w : Bool) (xs : List D) (e : Env) (S : Sto) : gsO b k j d (some (.lst w xs)) e S = gsP b k w xs d (ixD xs.length j) e S := id rfl
def gsR (b : Nat) (d x y : D) (e : Env) (S : Sto) : R Unit := match x, y with
  | .ref k, .int j => gsO b k j d S[k]? e S
  | _, _ => .stuck
@[simp] theorem gsR_ref (b k : Nat) (d : D) (j : Int) (e : Env) (S : Sto) : gsR b d (.ref k) (.int j) e S = gsO b k j d S[k]? e S := id rfl
@[simp] theorem gsM_ap (o i : SE) (b : Nat) (d : D) (e : Env) (S : Sto) : gsM o i b d e S = (o b e S).bnd fun x e S => (i b e S).bnd fun y e S => gsR b d x y e S := id rfl
@[simp] theorem mayPut_int (b i : Nat) (k : Int) : mayPut b i (.int k) = true := by simp [mayPut, D.lim]
@[simp] theorem mayPut_lim (b i : Nat) (d : D) (h : d.lim 0 = true) : mayPut b i d = true := by simp [mayPut, h]
def itR (d : D) (e : Env) (S : Sto) : R (List D) := match d with
  | .lst xs => .ok xs e S
  | .frz xs => .ok xs e S
  | .tup xs => .ok xs e S
  | _ => .stuck
@[simp] theorem itR_lst (xs : List D) (e : Env) (S : Sto) : itR (.lst xs) e S = .ok xs e S := id rfl
@[simp] theorem itR_frz (xs : List D) (e : Env) (S : Sto) : itR (.frz xs) e S = .ok xs e S := id rfl
@[simp] theorem itR_tup (xs : List D) (e : Env) (S : Sto) : itR (.tup xs) e S = .ok xs e S := id rfl
@[simp] theorem itemsM_ap (a : SE) (b : Nat) (e : Env) (S : Sto) : itemsM a b e S = (a b e S).bnd fun d e S => itR d e S := id rfl
def lisR (d : D) (e : Env) (S : Sto) : R (List D) := match d with
  | .lst xs => .ok xs e S
  | .frz xs => .ok xs e S
  | .tup xs => .ok xs e S
  | .byt s => if s.length ≤ line then .ok (s.map fun (c : Nat) => .int (c : Int)) e S else .stuck
  | _ => .stuck
@[simp] theorem lisR_lst (xs : List D) (e : Env) (S : Sto) : lisR (.lst xs) e S = .ok xs e S := id rfl
@[simp] theorem lisR_frz (xs : List D) (e : Env) (S : Sto) : lisR (.frz xs) e S = .ok xs e S := id rfl
@[simp] theorem lisR_tup (xs : List D) (e : Env) (S : Sto) : lisR (.tup xs) e S = .ok xs e S := id rfl
@[simp] theorem lisR_byt (s : List Nat) (e : Env) (S : Sto) : lisR (.byt s) e S = if s.length ≤ 16777216 then .ok (s.map fun (c : Nat) => .int (c : Int)) e S else .stuck := id rfl
@[simp] theorem listA_ap (a : SE) (b : Nat) (e : Env) (S : Sto) : listA a b e S = (a b e S).bnd fun x e S => lisR (deref S x) e S := id rfl
def rng1R (d : D) (e : Env) (S : Sto) : R (List D) := match d with
  | .int n => R.opt (rngI 0 n) e S
  | _ => .stuck
@[simp] theorem rng1R_int (n : Int) (e : Env) (S : Sto) : rng1R (.int n) e S = R.opt (rngI 0 n) e S := id rfl
@[simp] theorem rng1_ap (a : SE) (b : Nat) (e : Env) (S : Sto) : rng1 a b e S = (a b e S).bnd fun d e S => rng1R d e S := id rfl
def rng2R (d d' : D) (e : Env) (S : Sto) : R (List D) := match d, d' with
  | .int lo, .int n => R.opt (rngI lo n) e S
  | _, _ => .stuck
@[simp] theorem rng2R_int (lo n : Int) (e : Env) (S : Sto) : rng2R (.int lo) (.int n) e S = R.opt (rngI lo n) e S := id rfl
@[simp] theorem rng2_ap (a c : SE) (b : Nat) (e : Env) (S : Sto) : rng2 a c b e S = (a b e S).bnd fun d e S => (c b e S).bnd fun d' e S => rng2R d d' e S := id rfl
@[simp] theorem forM_ap (it : SA) (g : SG) (body : SS) (b : Nat) (e : Env) (S : Sto) : forM it g body b e S = (it b e S).bnd fun xs e S => loopM g body b xs e S := id rfl
def loopR (f : Fl) (g : SG) (body : SS) (b : Nat) (ds : List D) (e : Env) (S : Sto) : R Fl := match f with
  | .nx => loopM g body b ds e S
  | .ct => loopM g body b ds e S
  | .bk => .ok .nx e S
  | .ret d => .ok (.ret d) e S
@[simp] theorem loopR_nx (g : SG) (body : SS) (b : Nat) (ds : List D) (e : Env) (S : Sto) : loopR .nx g body b ds e S = loopM g body b ds e S := id rfl
@[simp] theorem loopR_ct (g : SG) (body : SS) (b : Nat) (ds : List D) (e : Env) (S : Sto) : loopR .ct g body b ds e S = loopM g body b ds e S := id rfl
@[simp] theorem loopR_bk (g : SG) (body : SS) (b : Nat) (ds : List D) (e : Env) (S : Sto) : loopR .bk g body b ds e S = .ok .nx e S := id rfl
@[simp] theorem loopR_ret (d : D) (g : SG) (body : SS) (b : Nat) (ds : List D) (e : Env) (S : Sto) : loopR (.ret d) g body b ds e S = .ok (.ret d) e S := id rfl
@[simp] theorem loopM_nil (g : SG) (body : SS) (b : Nat) (e : Env) (S : Sto) : loopM g body b [] e S = .ok .nx e S := id rfl
theorem loopM_cons (g : SG) (body : SS) (b : Nat) (d : D) (ds : List D) (e : Env) (S : Sto) : loopM g body b (d :: ds) e S = (g b d e S).bnd fun _ e S => (body b e S).bnd fun f e S => loopR f g body b ds e S := id rfl
/-- a turn that always goes on keeps what it keeps -/
theorem loopM_inv (P : Env → Sto → Prop) {g : SG} {body : SS} {b : Nat} : ∀ (ds : List D), (∀ d ∈ ds, ∀ e S, P e S → ∃ e1 S1 e' S', g b d e S = .ok () e1 S1 ∧ body b e1 S1 = .ok .nx e' S' ∧ P e' S') → ∀ e S, P e S → ∃ e' S', loopM g body b ds e S = .ok .nx e' S' ∧ P e' S'
  | [], _, e, S, p => ⟨e, S, rfl, p⟩
  | d :: ds, h, e, S, p => by
    obtain ⟨e1, S1, e2, S2, h1, h2, p2⟩ := h d List.mem_cons_self e S p
    obtain ⟨e3, S3, h3, p3⟩ := loopM_inv P ds (fun d hd => h d (List.mem_cons_of_mem _ hd)) e2 S2 p2
    exact ⟨e3, S3, by rw [loopM_cons, h1, R.bnd_ok, h2, R.bnd_ok, loopR_nx, h3], p3⟩
/-- goes on, and P -/
@[irreducible] def Goes (r : R Fl) (P : Env → Sto → Prop) : Prop := match r with
  | .ok .nx e S => P e S
  | .ok .ct e S => P e S
  | _ => False
@[simp] theorem goes_nx (e : Env) (S : Sto) (P : Env → Sto → Prop) : Goes (.ok .nx e S) P = P e S := by unfold Goes; rfl
@[simp] theorem goes_ct (e : Env) (S : Sto) (P : Env → Sto → Prop) : Goes (.ok .ct e S) P = P e S := by unfold Goes; rfl
theorem loop_goes (P : Env → Sto → Prop) {g : SG} {body : SS} {b : Nat} : ∀ (ds : List D), (∀ d ∈ ds, ∀ e S, P e S → Goes ((g b d e S).bnd fun _ e S => body b e S) P) → ∀ e S, P e S → ∃ e' S', loopM g body b ds e S = .ok .nx e' S' ∧ P e' S'
  | [], _, e, S, p => ⟨e, S, rfl, p⟩
  | d :: ds, h, e, S, p => by
    have h1 := h d List.mem_cons_self e S p
    unfold Goes at h1
    rw [loopM_cons]
    have ih := fun e S p => loop_goes P ds (fun d hd => h d (List.mem_cons_of_mem _ hd)) e S p
    revert h1
    cases g b d e S with
    | stuck => exact fun h1 => h1.elim
    | exc c fs e1 S1 => exact fun h1 => h1.elim
    | ok u e1 S1 =>
      rw [R.bnd_ok, R.bnd_ok]
      cases body b e1 S1 with
      | stuck => exact fun h1 => h1.elim
      | exc c fs e2 S2 => exact fun h1 => h1.elim
      | ok f e2 S2 =>
        rw [R.bnd_ok]
        cases f with
        | nx => exact fun h1 => ih e2 S2 h1
        | ct => exact fun h1 => ih e2 S2 h1
        | bk => exact fun h1 => h1.elim
        | ret d => exact fun h1 => h1.elim
def partR (d : D) (e : Env) (S : Sto) : R (Option Int) := match d with
  | .int i => .ok (some i) e S
  | _ => .stuck
@[simp] theorem partR_int (i : Int) (e : Env) (S : Sto) : partR (.int i) e S = .ok (some i) e S := id rfl
@[simp] theorem partM_none (b : Nat) (e : Env) (S : Sto) : partM none b e S = .ok none e S := id rfl
@[simp] theorem partM_some (a : SE) (b : Nat) (e : Env) (S : Sto) : partM (some a) b e S = (a b e S).bnd fun x e S => partR x e S := id rfl
@[simp] theorem slcM_ap (a : SE) (lo hi : Option SE) (b : Nat) (e : Env) (S : Sto) : slcM a lo hi b e S = (a b e S).bnd fun x e S => (partM lo b e S).bnd fun l e S => (partM hi b e S).bnd fun u e S => R.opt (slcS S x l u) e S := id rfl
def isiO (tbl : List (String × Bool)) (S : Sto) (x : D) : Option Bool := match classOf S x with
  | some (c, _) => tbl.lookup c
  | none => (tyD S x).bind fun t => tbl.lookup t
@[simp] theorem isiM_ap (tbl : List (String × Bool)) (a : SE) (b : Nat) (e : Env) (S : Sto) : isiM tbl a b e S = (a b e S).bnd fun x e S => R.opt (isiO tbl S x) e S := by
  unfold isiM isiO
  congr 1
  funext x e S
  cases classOf S x with
  | none => rfl
  | some p => rfl
/-- a def's end -/
def fnR (keep : Bool) (n : Nat) (r : R Fl) : R D := match r with
  | .ok f _ S' => (match f with
    | .nx => .ok .non [] (if keep = true then S' else S'.take n)
    | .ret d => if keep = true then .ok d [] S' else if d.lim n = true then .ok d [] (S'.take n) else .stuck
    | _ => .stuck)
  | .exc c fs _ S' => if limF 0 fs = true then .exc c fs [] (S'.take n) else .stuck
  | .stuck => .stuck
theorem fnM_ap (n : Nat) (keep : Bool) (body : SS) (ds : List D) (S : Sto) : fnM n keep body ds S = fnR keep S.length (body S.length (ds.map some ++ List.replicate (n - ds.length) none) S) := id rfl
@[simp] theorem fnR_nx (n : Nat) (e : Env) (S : Sto) : fnR false n (.ok .nx e S) = .ok .non [] (S.take n) := id rfl
@[simp] theorem fnR_ret (n : Nat) (d : D) (e : Env) (S : Sto) : fnR false n (.ok (.ret d) e S) = if d.lim n = true then .ok d [] (S.take n) else .stuck := id rfl
@[simp] theorem fnR_nxk (n : Nat) (e : Env) (S : Sto) : fnR true n (.ok .nx e S) = .ok .non [] S := id rfl
@[simp] theorem fnR_retk (n : Nat) (d : D) (e : Env) (S : Sto) : fnR true n (.ok (.ret d) e S) = .ok d [] S := id rfl
@[simp] theorem fnR_exc (k : Bool) (n : Nat) (c : String) (fs : List (String × D)) (e : Env) (S : Sto) : fnR k n (.exc c fs e S) = if limF 0 fs = true then .exc c fs [] (S.take n) else .stuck := id rfl

/-! ### operations -/
@[simp] theorem deref_frz (S : Sto) (xs : List D) : deref S (.frz xs) = .frz xs := id rfl
@[simp] theorem deref_edi (S : Sto) : deref S .edi = .edi := id rfl
@[simp] theorem deref_ins (S : Sto) (c : String) (fs : List (String × D)) : deref S (.ins c fs) = .ins c fs := id rfl
theorem deref_ref' (S : Sto) (i : Nat) : deref S (.ref i) = match S[i]? with | some (.lst _ xs) => .lst xs | _ => .ref i := id rfl
theorem deref_at {S : Sto} {i : Nat} {w : Bool} {xs : List D} (h : S[i]? = some (.lst w xs)) : deref S (.ref i) = .lst xs := by
  rw [deref_ref']
  rw [h]
def drO (i : Nat) (o : Option Ob) : D := match o with
  | some (.lst _ xs) => .lst xs
  | _ => .ref i
@[simp] theorem drO_lst (i : Nat) (w : Bool) (xs : List D) : drO i (some (.lst w xs)) = .lst xs := id rfl
@[simp] theorem drO_ins (i : Nat) (c : String) (fs : List (String × D)) : drO i (some (.ins c fs)) = .ref i := id rfl
@[simp] theorem deref_ref_ap (S : Sto) (i : Nat) : deref S (.ref i) = drO i S[i]? := id rfl
theorem deref_nr (S : Sto) {d : D} (h : d.isRef = false) : deref S d = d := by cases d <;> first | rfl | cases h
@[simp] theorem addS_int (S : Sto) (i j : Int) : addS S (.int i) (.int j) = some (.int (i + j)) := id rfl
@[simp] theorem addS_lst (S : Sto) (a b : List D) : addS S (.lst a) (.lst b) = if a.length + b.length ≤ line then some (.lst (a ++ b)) else none := id rfl
@[simp] theorem addS_str (S : Sto) (a b : List Nat) : addS S (.str a) (.str b) = if a.length + b.length ≤ line then some (.str (a ++ b)) else none := id rfl
@[simp] theorem addS_byt (S : Sto) (a b : List Nat) : addS S (.byt a) (.byt b) = if a.length + b.length ≤ line then some (.byt (a ++ b)) else none := id rfl
@[simp] theorem subS_int (S : Sto) (i j : Int) : subS S (.int i) (.int j) = some (.int (i - j)) := id rfl
@[simp] theorem mulS_int (S : Sto) (i j : Int) : mulS S (.int i) (.int j) = if mulOk i j = true then some (.int (i * j)) else none := id rfl
theorem mulOk_l {i : Int} (j : Int) (h : -two64 < i ∧ i < two64) : mulOk i j = true := decide_eq_true (.inl h)
theorem mulOk_r (i : Int) {j : Int} (h : -two64 < j ∧ j < two64) : mulOk i j = true := decide_eq_true (.inr h)
@[simp] theorem mulOk_left (i j : Int) (h1 : -18446744073709551616 < i) (h2 : i < 18446744073709551616) : mulOk i j = true := mulOk_l j ⟨h1, h2⟩
@[simp] theorem mulOk_right (i j : Int) (h1 : -18446744073709551616 < j) (h2 : j < 18446744073709551616) : mulOk i j = true := mulOk_r i ⟨h1, h2⟩
@[simp] theorem mulOk_mod (x j m : Int) (h1 : 0 < m) (h2 : m ≤ 18446744073709551616) : mulOk (x % m) j = true := by
  have a := Int.emod_nonneg x (b := m) (by omega)
  have b := Int.emod_lt_of_pos x h1
  refine mulOk_l j ⟨?_, ?_⟩
  · show (-18446744073709551616 : Int) < _; omega
  · show _ < (18446744073709551616 : Int); omega
@[simp] theorem fdivS_int (S : Sto) (i j : Int) : fdivS S (.int i) (.int j) = if 0 < j ∧ j < 18446744073709551616 then some (.int (i / j)) else none := id rfl
@[simp] theorem modS_int (S : Sto) (i j : Int) : modS S (.int i) (.int j) = if 0 < j then some (.int (i % j)) else none := id rfl
@[simp] theorem powS_int (S : Sto) (i j : Int) : powS S (.int i) (.int j) = if (0 ≤ j ∧ j ≤ 1000000) ∧ (-18446744073709551616 < i ∧ i < 18446744073709551616) then some (.int (i ^ j.toNat)) else none := id rfl
@[simp] theorem negS_int (S : Sto) (i : Int) : negS S (.int i) = some (.int (-i)) := id rfl
@[simp] theorem ltS_int (S : Sto) (i j : Int) : ltS S (.int i) (.int j) = some (decide (i < j)) := id rfl
@[simp] theorem leS_int (S : Sto) (i j : Int) : leS S (.int i) (.int j) = some (decide (i ≤ j)) := id rfl
@[simp] theorem gtS_int (S : Sto) (i j : Int) : gtS S (.int i) (.int j) = some (decide (j < i)) := id rfl
@[simp] theorem geS_int (S : Sto) (i j : Int) : geS S (.int i) (.int j) = some (decide (j ≤ i)) := id rfl
@[simp] theorem dataN_int (n : Nat) (i : Int) : D.dataN n (.int i) = true := by cases n <;> rfl
@[simp] theorem dataN_non (n : Nat) : D.dataN n .non = true := by cases n <;> rfl
@[simp] theorem dataN_bl (n : Nat) (k : Bool) : D.dataN n (.bl k) = true := by cases n <;> rfl
@[simp] theorem eqS_int (S : Sto) (i j : Int) : eqS S (.int i) (.int j) = some (decide (i = j)) := by
  unfold eqS eqD
  rw [deref_int, deref_int, dataN_int, dataN_int]
  show some (i == j) = _
  by_cases h : i = j
  · subst h; simp
  · simp [h]
@[simp] theorem neS_int (S : Sto) (i j : Int) : neS S (.int i) (.int j) = some (!decide (i = j)) := by
  show (eqS S _ _).map _ = _
  rw [eqS_int]; rfl
@[simp] theorem eqS_bl (S : Sto) (i j : Bool) : eqS S (.bl i) (.bl j) = some (decide (i = j)) := by
  cases i <;> cases j <;> simp [eqS, eqD, D.eqv]
@[simp] theorem neS_bl (S : Sto) (i j : Bool) : neS S (.bl i) (.bl j) = some (!decide (i = j)) := by
  show (eqS S _ _).map _ = _
  rw [eqS_bl]; rfl
@[simp] theorem isB_bl (S : Sto) (i j : Bool) : isB S (.bl i) (.bl j) = some (decide (i = j)) := id rfl
@[simp] theorem isnB_bl (S : Sto) (i j : Bool) : isnB S (.bl i) (.bl j) = some (!decide (i = j)) := id rfl
@[simp] theorem isS_none (S : Sto) (x : D) : isS S x .non = if isGl x then none else some (isNoneD x) := id rfl
@[simp] theorem notS_none (S : Sto) (x : D) : notS S x .non = if isGl x then none else some (!isNoneD x) := id rfl
@[simp] theorem isGl_non : isGl .non = false := id rfl
@[simp] theorem isGl_int (k : Int) : isGl (.int k) = false := id rfl
@[simp] theorem isGl_bl (k : Bool) : isGl (.bl k) = false := id rfl
@[simp] theorem isGl_str (k : List Nat) : isGl (.str k) = false := id rfl
@[simp] theorem isGl_byt (k : List Nat) : isGl (.byt k) = false := id rfl
@[simp] theorem isGl_lst (k : List D) : isGl (.lst k) = false := id rfl
@[simp] theorem isGl_frz (k : List D) : isGl (.frz k) = false := id rfl
@[simp] theorem isGl_tup (k : List D) : isGl (.tup k) = false := id rfl
@[simp] theorem isGl_edi : isGl .edi = false := id rfl
@[simp] theorem isGl_ref (k : Nat) : isGl (.ref k) = false := id rfl
@[simp] theorem isGl_ins (c : String) (k : List (String × D)) : isGl (.ins c k) = false := id rfl
@[simp] theorem isN_non : isNoneD .non = true := id rfl
@[simp] theorem isN_int (k : Int) : isNoneD (.int k) = false := id rfl
@[simp] theorem isN_bl (k : Bool) : isNoneD (.bl k) = false := id rfl
@[simp] theorem isN_str (k : List Nat) : isNoneD (.str k) = false := id rfl
@[simp] theorem isN_byt (k : List Nat) : isNoneD (.byt k) = false := id rfl
@[simp] theorem isN_lst (k : List D) : isNoneD (.lst k) = false := id rfl
@[simp] theorem isN_frz (k : List D) : isNoneD (.frz k) = false := id rfl
@[simp] theorem isN_tup (k : List D) : isNoneD (.tup k) = false := id rfl
@[simp] theorem isN_edi : isNoneD .edi = false := id rfl
@[simp] theorem isN_ref (k : Nat) : isNoneD (.ref k) = false := id rfl
@[simp] theorem isN_ins (c : String) (k : List (String × D)) : isNoneD (.ins c k) = false := id rfl
@[simp] theorem truth_bl (S : Sto) (k : Bool) : truth S (.bl k) = some k := id rfl
@[simp] theorem truth_non (S : Sto) : truth S .non = some false := id rfl
@[simp] theorem truth_int (S : Sto) (k : Int) : truth S (.int k) = some (k != 0) := id rfl
@[simp] theorem truth_tup (S : Sto) (xs : List D) : truth S (.tup xs) = some (!xs.isEmpty) := id rfl
@[simp] theorem truth_lst (S : Sto) (xs : List D) : truth S (.lst xs) = some (!xs.isEmpty) := id rfl
@[simp] theorem intS_int (S : Sto) (i : Int) : intS S [.int i] = some (.int i) := id rfl
@[simp] theorem min2S_int (S : Sto) (i j : Int) : min2S S [.int i, .int j] = some (.int (if j < i then j else i)) := id rfl
@[simp] theorem max2S_int (S : Sto) (i j : Int) : max2S S [.int i, .int j] = some (.int (if j > i then j else i)) := id rfl
def lenD (d : D) : Option D := match d with
  | .lst xs => some (.int (xs.length : Int))
  | .frz xs => some (.int (xs.length : Int))
  | .tup xs => some (.int (xs.length : Int))
  | .byt s => if s.length ≤ line then some (.int (s.length : Int)) else none
  | .str s => if s.length ≤ line then some (.int (s.length : Int)) else none
  | _ => none
@[simp] theorem lenS_ap (S : Sto) (d : D) : lenS S [d] = lenD (deref S d) := id rfl
@[simp] theorem lenD_lst (xs : List D) : lenD (.lst xs) = some (.int (xs.length : Int)) := id rfl
@[simp] theorem lenD_frz (xs : List D) : lenD (.frz xs) = some (.int (xs.length : Int)) := id rfl
@[simp] theorem lenD_tup (xs : List D) : lenD (.tup xs) = some (.int (xs.length : Int)) := id rfl
@[simp] theorem lenD_byt (s : List Nat) : lenD (.byt s) = if s.length ≤ line then some (.int (s.length : Int)) else none := id rfl
def tupD (d : D) : Option D := match d with
  | .lst xs => some (.tup xs)
  | .frz xs => some (.tup xs)
  | .tup xs => some (.tup xs)
  | _ => none
@[simp] theorem tupS_ap (S : Sto) (d : D) : tupS S [d] = tupD (deref S d) := id rfl
@[simp] theorem tupD_lst (xs : List D) : tupD (.lst xs) = some (.tup xs) := id rfl
@[simp] theorem tupD_frz (xs : List D) : tupD (.frz xs) = some (.tup xs) := id rfl
@[simp] theorem tupD_tup (xs : List D) : tupD (.tup xs) = some (.tup xs) := id rfl
def idxD (d : D) (j : Int) : Option D := match d with
  | .lst xs => (ixD xs.length j).bind fun p => xs[p]?
  | .frz xs => (ixD xs.length j).bind fun p => xs[p]?
  | .tup xs => (ixD xs.length j).bind fun p => xs[p]?
  | .byt s => if s.length ≤ line ∧ 0 ≤ j ∧ j < s.length then (s[j.toNat]?).map fun (c : Nat) => .int (c : Int) else none
  | .str s => if s.length ≤ line then ((ixD s.length j).bind fun p => s[p]?).map fun c => .str [c] else none
  | _ => none
@[simp] theorem idxS_ap (S : Sto) (d : D) (j : Int) : idxS S d (.int j) = idxD (deref S d) j := id rfl
@[simp] theorem idxD_lst (xs : List D) (j : Int) : idxD (.lst xs) j = (ixD xs.length j).bind fun p => xs[p]? := id rfl
@[simp] theorem idxD_frz (xs : List D) (j : Int) : idxD (.frz xs) j = (ixD xs.length j).bind fun p => xs[p]? := id rfl
@[simp] theorem idxD_tup (xs : List D) (j : Int) : idxD (.tup xs) j = (ixD xs.length j).bind fun p => xs[p]? := id rfl
def slcD (d : D) (l u : Option Int) : Option D := match d with
  | .lst xs => some (.lst (cutL xs l u))
  | .frz xs => some (.lst (cutL xs l u))
  | .str s => if s.length ≤ line then some (.str (cutL s l u)) else none
  | .byt s => if s.length ≤ line then some (.byt (cutL s l u)) else none
  | _ => none
@[simp] theorem slcS_ap (S : Sto) (d : D) (l u : Option Int) : slcS S d l u = slcD (deref S d) l u := id rfl
@[simp] theorem slcD_lst (xs : List D) (l u : Option Int) : slcD (.lst xs) l u = some (.lst (cutL xs l u)) := id rfl
@[simp] theorem slcD_frz (xs : List D) (l u : Option Int) : slcD (.frz xs) l u = some (.lst (cutL xs l u)) := id rfl
@[simp] theorem lim_int (n : Nat) (i : Int) : (D.int i).lim n = true := id rfl
@[simp] theorem lim_non (n : Nat) : D.non.lim n = true := id rfl
@[simp] theorem lim_bl (n : Nat) (k : Bool) : (D.bl k).lim n = true := id rfl
@[simp] theorem lim_str (n : Nat) (s : List Nat) : (D.str s).lim n = true := id rfl
@[simp] theorem lim_byt (n : Nat) (s : List Nat) : (D.byt s).lim n = true := id rfl
@[simp] theorem lim_edi (n : Nat) : D.edi.lim n = true := id rfl
@[simp] theorem lim_tup (n : Nat) (xs : List D) : (D.tup xs).lim n = limL n xs := by rw [D.lim]
@[simp] theorem lim_lst (n : Nat) (xs : List D) : (D.lst xs).lim n = limL n xs := by rw [D.lim]
@[simp] theorem lim_frz (n : Nat) (xs : List D) : (D.frz xs).lim n = limL n xs := by rw [D.lim]
@[simp] theorem limL_nil (n : Nat) : limL n [] = true := by rw [limL]
@[simp] theorem limL_cons (n : Nat) (d : D) (ds : List D) : limL n (d :: ds) = (d.lim n && limL n ds) := by rw [limL]
theorem ix_nat {n : Nat} {j : Int} (h0 : 0 ≤ j) (h : j < n) : ixD n j = some j.toNat := by simp [ixD, h0, h]
@[simp] theorem ixD_nat (n k : Nat) (h : k < n) : ixD n (k : Int) = some k := by rw [ix_nat (by omega) (by omega)]; simp
@[simp] theorem ixD_0 (n : Nat) (h : 0 < n) : ixD n 0 = some 0 := by rw [ix_nat (by omega) (by omega)]; simp
@[simp] theorem ixD_1 (n : Nat) (h : 1 < n) : ixD n 1 = some 1 := by rw [ix_nat (by omega) (by omega)]; simp
@[simp] theorem ixD_2 (n : Nat) (h : 2 < n) : ixD n 2 = some 2 := by rw [ix_nat (by omega) (by omega)]; simp
@[simp] theorem ixD_3 (n : Nat) (h : 3 < n) : ixD n 3 = some 3 := by rw [ix_nat (by omega) (by omega)]; simp
@[simp] theorem ixD_4 (n : Nat) (h : 4 < n) : ixD n 4 = some 4 := by rw [ix_nat (by omega) (by omega)]; simp
@[simp] theorem ixD_5 (n : Nat) (h : 5 < n) : ixD n 5 = some 5 := by rw [ix_nat (by omega) (by omega)]; simp
@[simp] theorem ixD_6 (n : Nat) (h : 6 < n) : ixD n 6 = some 6 := by rw [ix_nat (by omega) (by omega)]; simp
@[simp] theorem ixD_7 (n : Nat) (h : 7 < n) : ixD n 7 = some 7 := by rw [ix_nat (by omega) (by omega)]; simp
@[simp] theorem ixD_m1 (n : Nat) (h : 0 < n) : ixD n (-1) = some (n - 1) := by
  unfold ixD
  rw [if_neg (by omega), if_pos (by omega)]
  congr 1
  omega
@[simp] theorem line_big : line = 16777216 := id rfl
theorem two64_big : two64 = 18446744073709551616 := id rfl
@[simp] theorem set_at {S : Sto} {i : Nat} {o o' : Ob} (h : S[i]? = some o) : (S.set i o')[i]? = some o' := List.getElem?_set_self (List.getElem?_eq_some_iff.mp h).1
theorem set_same {S : Sto} {i : Nat} {o : Ob} (h : S[i]? = some o) : S.set i o = S := by
  refine List.ext_getElem? fun j => ?_
  by_cases e : i = j
  · subst e; rw [set_at h, h]
  · rw [List.getElem?_set_ne e]
@[simp] theorem app_at (S : Sto) (o : Ob) (l : Sto) : (S ++ o :: l)[S.length]? = some o := by simp
@[simp] theorem app_at1 (S : Sto) (o o' : Ob) (l : Sto) : (S ++ o :: o' :: l)[S.length + 1]? = some o' := by simp
@[simp] theorem app_set (S : Sto) (o o' : Ob) (l : Sto) : (S ++ o :: l).set S.length o' = S ++ o' :: l := by simp
@[simp] theorem app_set1 (S : Sto) (o o' x : Ob) (l : Sto) : (S ++ o :: o' :: l).set (S.length + 1) x = S ++ o :: x :: l := by
  rw [List.set_append_right _ _ (by omega)]
  have : S.length + 1 - S.length = 1 := by omega
  rw [this]; rfl
@[simp] theorem take_set_len (S : Sto) (i : Nat) (o : Ob) : (S.set i o).take S.length = S.set i o := List.take_of_length_le (by simp)
@[simp] theorem take_len' (S : Sto) : S.take S.length = S := List.take_of_length_le (Nat.le_refl _)

/-! ### isinstance -/
@[simp] theorem isi_bool_non (S : Sto) : isiO ty_bool S (.non : D) = some false := id rfl
@[simp] theorem isi_bool_bl (S : Sto) (k : Bool) : isiO ty_bool S (.bl k : D) = some true := id rfl
@[simp] theorem isi_bool_int (S : Sto) (k : Int) : isiO ty_bool S (.int k : D) = some false := id rfl
@[simp] theorem isi_bool_str (S : Sto) (k : List Nat) : isiO ty_bool S (.str k : D) = some false := id rfl
@[simp] theorem isi_bool_byt (S : Sto) (k : List Nat) : isiO ty_bool S (.byt k : D) = some false := id rfl
@[simp] theorem isi_bool_lst (S : Sto) (k : List D) : isiO ty_bool S (.lst k : D) = some false := id rfl
@[simp] theorem isi_bool_frz (S : Sto) (k : List D) : isiO ty_bool S (.frz k : D) = some false := id rfl
@[simp] theorem isi_bool_tup (S : Sto) (k : List D) : isiO ty_bool S (.tup k : D) = some false := id rfl
@[simp] theorem isi_bool_edi (S : Sto) : isiO ty_bool S (.edi : D) = some false := id rfl
@[simp] theorem isi_int_non (S : Sto) : isiO ty_int S (.non : D) = some false := id rfl
@[simp] theorem isi_int_bl (S : Sto) (k : Bool) : isiO ty_int S (.bl k : D) = some true := id rfl
@[simp] theorem isi_int_int (S : Sto) (k : Int) : isiO ty_int S (.int k : D) = some true := id rfl
@[simp] theorem isi_int_str (S : Sto) (k : List Nat) : isiO ty_int S (.str k : D) = some false := id rfl
@[simp] theorem isi_int_byt (S : Sto) (k : List Nat) : isiO ty_int S (.byt k : D) = some false := id rfl
@[simp] theorem isi_int_lst (S : Sto) (k : List D) : isiO ty_int S (.lst k : D) = some false := id rfl
@[simp] theorem isi_int_frz (S : Sto) (k : List D) : isiO ty_int S (.frz k : D) = some false := id rfl
@[simp] theorem isi_int_tup (S : Sto) (k : List D) : isiO ty_int S (.tup k : D) = some false := id rfl
@[simp] theorem isi_int_edi (S : Sto) : isiO ty_int S (.edi : D) = some false := id rfl
@[simp] theorem isi_str_non (S : Sto) : isiO ty_str S (.non : D) = some false := id rfl
@[simp] theorem isi_str_bl (S : Sto) (k : Bool) : isiO ty_str S (.bl k : D) = some false := id rfl
@[simp] theorem isi_str_int (S : Sto) (k : Int) : isiO ty_str S (.int k : D) = some false := id rfl
@[simp] theorem isi_str_str (S : Sto) (k : List Nat) : isiO ty_str S (.str k : D) = some true := id rfl
@[simp] theorem isi_str_byt (S : Sto) (k : List Nat) : isiO ty_str S (.byt k : D) = some false := id rfl
@[simp] theorem isi_str_lst (S : Sto) (k : List D) : isiO ty_str S (.lst k : D) = some false := id rfl
@[simp] theorem isi_str_frz (S : Sto) (k : List D) : isiO ty_str S (.frz k : D) = some false := id rfl
@[simp] theorem isi_str_tup (S : Sto) (k : List D) : isiO ty_str S (.tup k : D) = some false := id rfl
@[simp] theorem isi_str_edi (S : Sto) : isiO ty_str S (.edi : D) = some false := id rfl
@[simp] theorem isi_bytes_non (S : Sto) : isiO ty_bytes S (.non : D) = some false := id rfl
@[simp] theorem isi_bytes_bl (S : Sto) (k : Bool) : isiO ty_bytes S (.bl k : D) = some false := id rfl
@[simp] theorem isi_bytes_int (S : Sto) (k : Int) : isiO ty_bytes S (.int k : D) = some false := id rfl
@[simp] theorem isi_bytes_str (S : Sto) (k : List Nat) : isiO ty_bytes S (.str k : D) = some false := id rfl
@[simp] theorem isi_bytes_byt (S : Sto) (k : List Nat) : isiO ty_bytes S (.byt k : D) = some true := id rfl
@[simp] theorem isi_bytes_lst (S : Sto) (k : List D) : isiO ty_bytes S (.lst k : D) = some false := id rfl
@[simp] theorem isi_bytes_frz (S : Sto) (k : List D) : isiO ty_bytes S (.frz k : D) = some false := id rfl
@[simp] theorem isi_bytes_tup (S : Sto) (k : List D) : isiO ty_bytes S (.tup k : D) = some false := id rfl
@[simp] theorem isi_bytes_edi (S : Sto) : isiO ty_bytes S (.edi : D) = some false := id rfl
@[simp] theorem isi_list_non (S : Sto) : isiO ty_list S (.non : D) = some false := id rfl
@[simp] theorem isi_list_bl (S : Sto) (k : Bool) : isiO ty_list S (.bl k : D) = some false := id rfl
@[simp] theorem isi_list_int (S : Sto) (k : Int) : isiO ty_list S (.int k : D) = some false := id rfl
@[simp] theorem isi_list_str (S : Sto) (k : List Nat) : isiO ty_list S (.str k : D) = some false := id rfl
@[simp] theorem isi_list_byt (S : Sto) (k : List Nat) : isiO ty_list S (.byt k : D) = some false := id rfl
@[simp] theorem isi_list_lst (S : Sto) (k : List D) : isiO ty_list S (.lst k : D) = some true := id rfl
@[simp] theorem isi_list_frz (S : Sto) (k : List D) : isiO ty_list S (.frz k : D) = some true := id rfl
@[simp] theorem isi_list_tup (S : Sto) (k : List D) : isiO ty_list S (.tup k : D) = some false := id rfl
@[simp] theorem isi_list_edi (S : Sto) : isiO ty_list S (.edi : D) = some false := id rfl
@[simp] theorem isi_tuple_non (S : Sto) : isiO ty_tuple S (.non : D) = some false := id rfl
@[simp] theorem isi_tuple_bl (S : Sto) (k : Bool) : isiO ty_tuple S (.bl k : D) = some false := id rfl
@[simp] theorem isi_tuple_int (S : Sto) (k : Int) : isiO ty_tuple S (.int k : D) = some false := id rfl
@[simp] theorem isi_tuple_str (S : Sto) (k : List Nat) : isiO ty_tuple S (.str k : D) = some false := id rfl
@[simp] theorem isi_tuple_byt (S : Sto) (k : List Nat) : isiO ty_tuple S (.byt k : D) = some false := id rfl
@[simp] theorem isi_tuple_lst (S : Sto) (k : List D) : isiO ty_tuple S (.lst k : D) = some false := id rfl
@[simp] theorem isi_tuple_frz (S : Sto) (k : List D) : isiO ty_tuple S (.frz k : D) = some false := id rfl
@[simp] theorem isi_tuple_tup (S : Sto) (k : List D) : isiO ty_tuple S (.tup k : D) = some true := id rfl
@[simp] theorem isi_tuple_edi (S : Sto) : isiO ty_tuple S (.edi : D) = some false := id rfl
end Mir
end

/-! MirEval2 -/
section
set_option linter.all false
/-! MirEval2: more words worked out by simp: errors, objects, lists that change, comprehensions. -/
namespace Mir

/-! ### errors -/
@[simp] theorem raiseM_ap (c : String) (ks : List String) (a : SA) (b : Nat) (e : Env) (S : Sto) : raiseM c ks a b e S = (a b e S).bnd fun xs e S => if xs.length = ks.length then .exc c (ks.zip xs).reverse e S else .stuck := id rfl
def sufR (i : Nat) (r : R Fl) : R Fl := match r with
  | .ok f e' S' => .ok f (e'.set i none) S'
  | _ => .stuck
@[simp] theorem sufR_ok (i : Nat) (f : Fl) (e : Env) (S : Sto) : sufR i (.ok f e S) = .ok f (e.set i none) S := id rfl
def suf0 (r : R Fl) : R Fl := match r with
  | .ok f e' S' => .ok f e' S'
  | _ => .stuck
@[simp] theorem suf0_ok (f : Fl) (e : Env) (S : Sto) : suf0 (.ok f e S) = .ok f e S := id rfl
@[simp] theorem suiteR_some (i : Nat) (u : SS) (b : Nat) (e : Env) (S : Sto) : suiteR (some i) u b e S = if i < e.length then sufR i (u b (e.set i none) S) else .stuck := id rfl
@[simp] theorem suiteR_none (u : SS) (b : Nat) (e : Env) (S : Sto) : suiteR none u b e S = suf0 (u b e S) := id rfl
def catR (k : Option Bool) (c : String) (fs : List (String × D)) (b : Nat) (e : Env) (S : Sto) (o : Option Nat) (u : String → List (String × D) → SS) (more : List Cl) : R Fl := match k with
  | some true => suiteR o (u c fs) b e S
  | some false => catchM c fs b e S more
  | none => .stuck
@[simp] theorem catR_true (c : String) (fs : List (String × D)) (b : Nat) (e : Env) (S : Sto) (o : Option Nat) (u : String → List (String × D) → SS) (more : List Cl) : catR (some true) c fs b e S o u more = suiteR o (u c fs) b e S := id rfl
@[simp] theorem catR_false (c : String) (fs : List (String × D)) (b : Nat) (e : Env) (S : Sto) (o : Option Nat) (u : String → List (String × D) → SS) (more : List Cl) : catR (some false) c fs b e S o u more = catchM c fs b e S more := id rfl
@[simp] theorem catchM_nil (c : String) (fs : List (String × D)) (b : Nat) (e : Env) (S : Sto) : catchM c fs b e S [] = .exc c fs e S := id rfl
@[simp] theorem catchM_cons (c : String) (fs : List (String × D)) (b : Nat) (e : Env) (S : Sto) (tb : List (String × Bool)) (o : Option Nat) (u : String → List (String × D) → SS) (more : List Cl) : catchM c fs b e S ((tb, o, u) :: more) = catR (tb.lookup c) c fs b e S o u more := by
  rw [catchM]
  unfold catR
  rfl
def tryR (r : R Fl) (cs : List Cl) (b : Nat) : R Fl := match r with
  | .ok f e S => .ok f e S
  | .exc c fs e S => catchM c fs b e S cs
  | .stuck => .stuck
@[simp] theorem tryR_ok (f : Fl) (e : Env) (S : Sto) (cs : List Cl) (b : Nat) : tryR (.ok f e S) cs b = .ok f e S := id rfl
@[simp] theorem tryR_exc (c : String) (fs : List (String × D)) (e : Env) (S : Sto) (cs : List Cl) (b : Nat) : tryR (.exc c fs e S) cs b = catchM c fs b e S cs := id rfl
@[simp] theorem tryM_ap (body : SS) (cs : List Cl) (b : Nat) (e : Env) (S : Sto) : tryM body cs b e S = tryR (body b e S) cs b := id rfl
@[simp] theorem xfM_ap (c : String) (fs : List (String × D)) (c0 f : String) (b : Nat) (e : Env) (S : Sto) : xfM c fs c0 f b e S = if c = c0 then R.opt (fs.lookup f) e S else .stuck := id rfl
@[simp] theorem lookup_ap {α : Type} (f g : String) (d : α) (fs : List (String × α)) : ((g, d) :: fs).lookup f = if f = g then some d else fs.lookup f := by
  rw [List.lookup_cons]
  by_cases h : f = g
  · simp [h]
  · rw [if_neg h, beq_false_of_ne h]
@[simp] theorem lookup_nil {α : Type} (f : String) : ([] : List (String × α)).lookup f = none := id rfl

/-! ### x op= v -/
def augXR (i : Nat) (op : D → D → Option D) (v : SE) (b : Nat) (o : Option (Option D)) (e : Env) (S : Sto) : R Fl := match o with
  | some (some x) => (v b e S).bnd fun d e S => (R.opt (op x d) e S).bnd fun z e S => if i < e.length then .ok .nx (e.set i (some z)) S else .stuck
  | _ => .stuck
@[simp] theorem augXR_some (i : Nat) (op : D → D → Option D) (v : SE) (b : Nat) (x : D) (e : Env) (S : Sto) : augXR i op v b (some (some x)) e S = (v b e S).bnd fun d e S => (R.opt (op x d) e S).bnd fun z e S => if i < e.length then .ok .nx (e.set i (some z)) S else .stuck := id rfl
@[simp] theorem augX_ap (i : Nat) (op : D → D → Option D) (v : SE) (b : Nat) (e : Env) (S : Sto) : augX i op v b e S = augXR i op v b e[i]? e S := by
  unfold augX augXR
  cases e[i]? with
  | none => rfl
  | some o => cases o <;> rfl
@[simp] theorem addI_int (i j : Int) : addI (.int i) (.int j) = some (.int (i + j)) := id rfl
@[simp] theorem subI_int (i j : Int) : subI (.int i) (.int j) = some (.int (i - j)) := id rfl
@[simp] theorem mulI_int (i j : Int) : mulI (.int i) (.int j) = if mulOk i j = true then some (.int (i * j)) else none := id rfl
def augSZ (b k : Nat) (w : Bool) (ys : List D) (z : D) (o : Option Nat) (e : Env) (S : Sto) : R Fl := match o with
  | some p => if mayPut b k z = true then .ok .nx e (S.set k (.lst w (ys.set p z))) else .stuck
  | none => .stuck
@[simp] theorem augSZ_some (b k : Nat) (w : Bool) (ys : List D) (z : D) (p : Nat) (e : Env) (S : Sto) : augSZ b k w ys z (some p) e S = if mayPut b k z = true then .ok .nx e (S.set k (.lst w (ys.set p z))) else .stuck := id rfl
def augSQ (b k : Nat) (j : Int) (z : Option D) (o : Option Ob) (e : Env) (S : Sto) : R Fl := match z, o with
  | some z, some (.lst w ys) => augSZ b k w ys z (ixD ys.length j) e S
  | _, _ => .stuck
@[simp] theorem augSQ_some (b k : Nat) (j : Int) (z : D) (w : Bool) (ys : List D) (e : Env) (S : Sto) : augSQ b k j (some z) (some (.lst w ys)) e S = augSZ b k w ys z (ixD ys.length j) e S := id rfl
def augSP (op : D → D → Option D) (v : SE) (b k : Nat) (j : Int) (o : Option D) (e : Env) (S : Sto) : R Fl := match o with
  | some c => (v b e S).bnd fun d e S => augSQ b k j (op c d) S[k]? e S
  | none => .stuck
@[simp] theorem augSP_some (op : D → D → Option D) (v : SE) (b k : Nat) (j : Int) (c : D) (e : Env) (S : Sto) : augSP op v b k j (some c) e S = (v b e S).bnd fun d e S => augSQ b k j (op c d) S[k]? e S := id rfl
def augSO (op : D → D → Option D) (v : SE) (b k : Nat) (j : Int) (o : Option Ob) (e : Env) (S : Sto) : R Fl := match o with
  | some (.lst _ xs) => augSP op v b k j ((ixD xs.length j).bind fun p => xs[p]?) e S
  | _ => .stuck
@[simp] theorem augSO_some (op : D → D → Option D) (v : SE) (b k : Nat) (j : Int) (w : Bool) (xs : List D) (e : Env) (S : Sto) : augSO op v b k j (some (.lst w xs)) e S = augSP op v b k j ((ixD xs.length j).bind fun p => xs[p]?) e S := id rfl
def augSR (op : D → D → Option D) (v : SE) (b : Nat) (x y : D) (e : Env) (S : Sto) : R Fl := match x, y with
  | .ref k, .int j => augSO op v b k j S[k]? e S
  | _, _ => .stuck
@[simp] theorem augSR_ref (op : D → D → Option D) (v : SE) (b k : Nat) (j : Int) (e : Env) (S : Sto) : augSR op v b (.ref k) (.int j) e S = augSO op v b k j S[k]? e S := id rfl
@[simp] theorem augS_ap (op : D → D → Option D) (o i v : SE) (b : Nat) (e : Env) (S : Sto) : augS op o i v b e S = (o b e S).bnd fun x e S => (i b e S).bnd fun y e S => augSR op v b x y e S := id rfl

/-! ### loops' heads, tests -/
def enumR (d : D) (e : Env) (S : Sto) : R (List D) := match d with
  | .lst xs => .ok (enumFrom_ 0 xs) e S
  | .frz xs => .ok (enumFrom_ 0 xs) e S
  | .tup xs => .ok (enumFrom_ 0 xs) e S
  | _ => .stuck
@[simp] theorem enumR_tup (xs : List D) (e : Env) (S : Sto) : enumR (.tup xs) e S = .ok (enumFrom_ 0 xs) e S := id rfl
@[simp] theorem enumR_lst (xs : List D) (e : Env) (S : Sto) : enumR (.lst xs) e S = .ok (enumFrom_ 0 xs) e S := id rfl
@[simp] theorem enumR_frz (xs : List D) (e : Env) (S : Sto) : enumR (.frz xs) e S = .ok (enumFrom_ 0 xs) e S := id rfl
@[simp] theorem enumM_ap (a : SE) (b : Nat) (e : Env) (S : Sto) : enumM a b e S = (a b e S).bnd fun d e S => enumR d e S := id rfl
@[simp] theorem walT_ap (i : Nat) (f : Sto → D → D → Option Bool) (a c : SE) (b : Nat) (e : Env) (S : Sto) : walT i f a c b e S = (a b e S).bnd fun x e S => if i < e.length then (c b (e.set i (some x)) S).bnd fun y e S => R.opt (f S x y) e S else .stuck := id rfl
def allD (d : D) : Option D := match d with
  | .lst xs => (boolsOf xs).map fun bs => .bl (bs.all id)
  | _ => none
@[simp] theorem allS_ap (S : Sto) (d : D) : allS S [d] = allD (deref S d) := id rfl
@[simp] theorem allD_lst (xs : List D) : allD (.lst xs) = (boolsOf xs).map fun bs => .bl (bs.all id) := id rfl
def bytD (d : D) : Option D := match d with
  | .lst xs => (b8Of xs).map .byt
  | .frz xs => (b8Of xs).map .byt
  | .tup xs => (b8Of xs).map .byt
  | .byt s => some (.byt s)
  | _ => none
@[simp] theorem bytS_ap (S : Sto) (d : D) : bytS S [d] = bytD (deref S d) := id rfl
@[simp] theorem bytD_lst (xs : List D) : bytD (.lst xs) = (b8Of xs).map .byt := id rfl
@[simp] theorem bytD_frz (xs : List D) : bytD (.frz xs) = (b8Of xs).map .byt := id rfl
@[simp] theorem bytD_tup (xs : List D) : bytD (.tup xs) = (b8Of xs).map .byt := id rfl
@[simp] theorem bytD_byt (xs : List Nat) : bytD (.byt xs) = some (.byt xs) := id rfl
@[simp] theorem deref_byt_ (S : Sto) (xs : List Nat) : deref S (.byt xs) = .byt xs := id rfl

/-! ### objects -/
def clsO (o : Option Ob) : Option (String × List (String × D)) := match o with
  | some (.ins c fs) => some (c, fs)
  | _ => none
@[simp] theorem clsO_ins (c : String) (fs : List (String × D)) : clsO (some (.ins c fs)) = some (c, fs) := id rfl
@[simp] theorem clsO_lst (w : Bool) (xs : List D) : clsO (some (.lst w xs)) = none := id rfl
@[simp] theorem classOf_ref (S : Sto) (i : Nat) : classOf S (.ref i) = clsO S[i]? := id rfl
def methP (a : SA) (b : Nat) (d : D) (o : Option (Nat × SF)) (f : Option D) (e : Env) (S : Sto) : R D := match o, f with
  | some (k, m), none => (a b e S).bnd fun xs e S => if xs.length = k then (m (d :: xs) S).out e else .stuck
  | _, _ => .stuck
@[simp] theorem methP_some (a : SA) (b : Nat) (d : D) (k : Nat) (m : SF) (e : Env) (S : Sto) : methP a b d (some (k, m)) none e S = (a b e S).bnd fun xs e S => if xs.length = k then (m (d :: xs) S).out e else .stuck := id rfl
def methR (name : String) (tbl : List (String × Nat × SF)) (a : SA) (b : Nat) (d : D) (o : Option (String × List (String × D))) (e : Env) (S : Sto) : R D := match o with
  | some (c, fs) => methP a b d (tbl.lookup c) (fs.lookup name) e S
  | none => .stuck
@[simp] theorem methR_some (name : String) (tbl : List (String × Nat × SF)) (a : SA) (b : Nat) (d : D) (c : String) (fs : List (String × D)) (e : Env) (S : Sto) : methR name tbl a b d (some (c, fs)) e S = methP a b d (tbl.lookup c) (fs.lookup name) e S := id rfl
@[simp] theorem methM_ap (name : String) (tbl : List (String × Nat × SF)) (o : SE) (a : SA) (b : Nat) (e : Env) (S : Sto) : methM name tbl o a b e S = (o b e S).bnd fun d e S => methR name tbl a b d (classOf S d) e S := id rfl
def proR (r : R D) (e : Env) : R D := match r with
  | .ok d' _ S' => .ok d' e S'
  | _ => .stuck
@[simp] theorem proR_ok (d : D) (e e' : Env) (S : Sto) : proR (.ok d e' S) e = .ok d e S := id rfl
def attrP (f : String) (d : D) (fs : List (String × D)) (o : Option (Option SF)) (e : Env) (S : Sto) : R D := match o with
  | some none => R.opt (fs.lookup f) e S
  | some (some m) => proR (m [d] S) e
  | none => .stuck
@[simp] theorem attrP_fld (f : String) (d : D) (fs : List (String × D)) (e : Env) (S : Sto) : attrP f d fs (some none) e S = R.opt (fs.lookup f) e S := id rfl
@[simp] theorem attrP_pro (f : String) (d : D) (fs : List (String × D)) (m : SF) (e : Env) (S : Sto) : attrP f d fs (some (some m)) e S = proR (m [d] S) e := id rfl
def attrR (f : String) (tbl : List (String × Option SF)) (d : D) (o : Option (String × List (String × D))) (e : Env) (S : Sto) : R D := match o with
  | some (c, fs) => attrP f d fs (tbl.lookup c) e S
  | none => .stuck
@[simp] theorem attrR_some (f : String) (tbl : List (String × Option SF)) (d : D) (c : String) (fs : List (String × D)) (e : Env) (S : Sto) : attrR f tbl d (some (c, fs)) e S = attrP f d fs (tbl.lookup c) e S := id rfl
@[simp] theorem attrM_ap (f : String) (tbl : List (String × Option SF)) (o : SE) (b : Nat) (e : Env) (S : Sto) : attrM f tbl o b e S = (o b e S).bnd fun d e S => attrR f tbl d (classOf S d) e S := id rfl
def setO (f : String) (cls : List String) (b i : Nat) (d : D) (o : Option Ob) (e : Env) (S : Sto) : R Fl := match o with
  | some (.ins c fs) => if cls.elem c = true ∧ fs.length < 1000 ∧ mayPut b i d = true then .ok .nx e (S.set i (.ins c (putD f d fs))) else .stuck
  | _ => .stuck
@[simp] theorem setO_ins (f : String) (cls : List String) (b i : Nat) (d : D) (c : String) (fs : List (String × D)) (e : Env) (S : Sto) : setO f cls b i d (some (.ins c fs)) e S = if cls.elem c = true ∧ fs.length < 1000 ∧ mayPut b i d = true then .ok .nx e (S.set i (.ins c (putD f d fs))) else .stuck := id rfl
def setR (f : String) (cls : List String) (b : Nat) (d x : D) (e : Env) (S : Sto) : R Fl := match x with
  | .ref i => setO f cls b i d S[i]? e S
  | _ => .stuck
@[simp] theorem setR_ref (f : String) (cls : List String) (b : Nat) (d : D) (i : Nat) (e : Env) (S : Sto) : setR f cls b d (.ref i) e S = setO f cls b i d S[i]? e S := id rfl
@[simp] theorem setF_ap (f : String) (cls : List String) (o v : SE) (b : Nat) (e : Env) (S : Sto) : setF f cls o v b e S = (v b e S).bnd fun d e S => (o b e S).bnd fun x e S => setR f cls b d x e S := id rfl
@[simp] theorem putD_nil (f : String) (d : D) : putD f d [] = [(f, d)] := id rfl
@[simp] theorem putD_cons (f g : String) (d x : D) (fs : List (String × D)) : putD f d ((g, x) :: fs) = if g = f then (f, d) :: fs else (g, x) :: putD f d fs := id rfl
def augFQ (f : String) (b i : Nat) (c : String) (z : Option D) (o : Option Ob) (e : Env) (S : Sto) : R Fl := match z, o with
  | some z, some (.ins c' fs') => if fs'.length < 1000 ∧ mayPut b i z = true ∧ c' = c then .ok .nx e (S.set i (.ins c' (putD f z fs'))) else .stuck
  | _, _ => .stuck
@[simp] theorem augFQ_some (f : String) (b i : Nat) (c : String) (z : D) (c' : String) (fs' : List (String × D)) (e : Env) (S : Sto) : augFQ f b i c (some z) (some (.ins c' fs')) e S = if fs'.length < 1000 ∧ mayPut b i z = true ∧ c' = c then .ok .nx e (S.set i (.ins c' (putD f z fs'))) else .stuck := id rfl
def augFP (f : String) (cls : List String) (op : D → D → Option D) (v : SE) (b i : Nat) (c : String) (o : Option D) (e : Env) (S : Sto) : R Fl := match o with
  | some y => if cls.elem c = true then (v b e S).bnd fun d e S => augFQ f b i c (op y d) S[i]? e S else .stuck
  | none => .stuck
@[simp] theorem augFP_some (f : String) (cls : List String) (op : D → D → Option D) (v : SE) (b i : Nat) (c : String) (y : D) (e : Env) (S : Sto) : augFP f cls op v b i c (some y) e S = if cls.elem c = true then (v b e S).bnd fun d e S => augFQ f b i c (op y d) S[i]? e S else .stuck := id rfl
def augFO (f : String) (cls : List String) (op : D → D → Option D) (v : SE) (b i : Nat) (o : Option Ob) (e : Env) (S : Sto) : R Fl := match o with
  | some (.ins c fs) => augFP f cls op v b i c (fs.lookup f) e S
  | _ => .stuck
@[simp] theorem augFO_ins (f : String) (cls : List String) (op : D → D → Option D) (v : SE) (b i : Nat) (c : String) (fs : List (String × D)) (e : Env) (S : Sto) : augFO f cls op v b i (some (.ins c fs)) e S = augFP f cls op v b i c (fs.lookup f) e S := id rfl
def augFR (f : String) (cls : List String) (op : D → D → Option D) (v : SE) (b : Nat) (x : D) (e : Env) (S : Sto) : R Fl := match x with
  | .ref i => augFO f cls op v b i S[i]? e S
  | _ => .stuck
@[simp] theorem augFR_ref (f : String) (cls : List String) (op : D → D → Option D) (v : SE) (b i : Nat) (e : Env) (S : Sto) : augFR f cls op v b (.ref i) e S = augFO f cls op v b i S[i]? e S := id rfl
@[simp] theorem augF_ap (f : String) (cls : List String) (op : D → D → Option D) (o v : SE) (b : Nat) (e : Env) (S : Sto) : augF f cls op o v b e S = (o b e S).bnd fun x e S => augFR f cls op v b x e S := id rfl
def newO (e : Env) (S S' : Sto) (o : Option Ob) : R D := match o with
  | some (.ins c' fs) => if limF S.length (frostF S.length fs S').1 = true then .ok (.ins c' (frostF S.length fs S').1) e (S'.take S.length) else .stuck
  | _ => .stuck
@[simp] theorem newO_ins (e : Env) (S S' : Sto) (c : String) (fs : List (String × D)) : newO e S S' (some (.ins c fs)) = if limF S.length (frostF S.length fs S').1 = true then .ok (.ins c (frostF S.length fs S').1) e (S'.take S.length) else .stuck := id rfl
def newR (frozen : Bool) (e : Env) (S : Sto) (r : R D) : R D := match r with
  | .ok .non _ S' => if frozen = true then newO e S S' S'[S.length]? else .ok (.ref S.length) e S'
  | .exc c' fs _ S' => if limF 0 fs = true then .exc c' fs e (S'.take S.length) else .stuck
  | _ => .stuck
@[simp] theorem newR_fz (e e' : Env) (S S' : Sto) : newR true e S (.ok .non e' S') = newO e S S' S'[S.length]? := id rfl
@[simp] theorem newR_lv (e e' : Env) (S S' : Sto) : newR false e S (.ok .non e' S') = .ok (.ref S.length) e S' := id rfl
@[simp] theorem newR_exc (fz : Bool) (e e' : Env) (S S' : Sto) (c : String) (fs : List (String × D)) : newR fz e S (.exc c fs e' S') = if limF 0 fs = true then .exc c fs e (S'.take S.length) else .stuck := id rfl
@[simp] theorem newM_ap (c : String) (k : Nat) (frozen : Bool) (init : SF) (a : SA) (b : Nat) (e : Env) (S : Sto) : newM c k frozen init a b e S = (a b e S).bnd fun xs e S => if xs.length = k then newR frozen e S (init (.ref S.length :: xs) (S ++ [.ins c []])) else .stuck := id rfl
def iniR (r : R Fl) : R D := match r with
  | .ok .nx _ S' => .ok .non [] S'
  | .ok (.ret .non) _ S' => .ok .non [] S'
  | .exc c fs _ S' => if limF 0 fs = true then .exc c fs [] S' else .stuck
  | _ => .stuck
theorem iniM_ap (n : Nat) (body : SS) (ds : List D) (S : Sto) : iniM n body ds S = iniR (body (S.length - 1) (ds.map some ++ List.replicate (n - ds.length) none) S) := id rfl
@[simp] theorem iniR_nx (e : Env) (S : Sto) : iniR (.ok .nx e S) = .ok .non [] S := id rfl
@[simp] theorem iniR_exc (c : String) (fs : List (String × D)) (e : Env) (S : Sto) : iniR (.exc c fs e S) = if limF 0 fs = true then .exc c fs [] S else .stuck := id rfl
@[simp] theorem limF_nil (n : Nat) : limF n [] = true := by rw [limF]
@[simp] theorem limF_cons (n : Nat) (f : String) (d : D) (ds : List (String × D)) : limF n ((f, d) :: ds) = (d.lim n && limF n ds) := by rw [limF]
@[simp] theorem lim_ins (n : Nat) (c : String) (fs : List (String × D)) : (D.ins c fs).lim n = limF n fs := by rw [D.lim]
@[simp] theorem lim_ref (n i : Nat) : (D.ref i).lim n = decide (i < n) := by rw [D.lim]

/-! ### lists that change -/
def lmQ (b i : Nat) (w : Bool) (o : Option (List D × List D)) (e : Env) (S : Sto) : R D := match o with
  | some (zs, ws) => if (decide (b ≤ i) || limL 0 ws) = true then .ok .non e (S.set i (.lst w zs)) else .stuck
  | none => .stuck
@[simp] theorem lmQ_some (b i : Nat) (w : Bool) (zs ws : List D) (e : Env) (S : Sto) : lmQ b i w (some (zs, ws)) e S = if (decide (b ≤ i) || limL 0 ws) = true then .ok .non e (S.set i (.lst w zs)) else .stuck := id rfl
def lmP (f : Sto → List D → List D → Option (List D × List D)) (b i : Nat) (ys : List D) (o : Option Ob) (e : Env) (S : Sto) : R D := match o with
  | some (.lst w xs) => lmQ b i w (f S xs ys) e S
  | _ => .stuck
@[simp] theorem lmP_some (f : Sto → List D → List D → Option (List D × List D)) (b i : Nat) (ys : List D) (w : Bool) (xs : List D) (e : Env) (S : Sto) : lmP f b i ys (some (.lst w xs)) e S = lmQ b i w (f S xs ys) e S := id rfl
def lmO (f : Sto → List D → List D → Option (List D × List D)) (a : SA) (b i : Nat) (o : Option Ob) (e : Env) (S : Sto) : R D := match o with
  | some (.lst _ _) => (a b e S).bnd fun ys e S => lmP f b i ys S[i]? e S
  | _ => .stuck
@[simp] theorem lmO_some (f : Sto → List D → List D → Option (List D × List D)) (a : SA) (b i : Nat) (w : Bool) (xs : List D) (e : Env) (S : Sto) : lmO f a b i (some (.lst w xs)) e S = (a b e S).bnd fun ys e S => lmP f b i ys S[i]? e S := id rfl
def lmR (f : Sto → List D → List D → Option (List D × List D)) (a : SA) (b : Nat) (x : D) (e : Env) (S : Sto) : R D := match x with
  | .ref i => lmO f a b i S[i]? e S
  | _ => .stuck
@[simp] theorem lmR_ref (f : Sto → List D → List D → Option (List D × List D)) (a : SA) (b i : Nat) (e : Env) (S : Sto) : lmR f a b (.ref i) e S = lmO f a b i S[i]? e S := id rfl
@[simp] theorem lmetM_ap (f : Sto → List D → List D → Option (List D × List D)) (o : SE) (a : SA) (b : Nat) (e : Env) (S : Sto) : lmetM f o a b e S = (o b e S).bnd fun x e S => lmR f a b x e S := id rfl
@[simp] theorem appL_one (S : Sto) (xs : List D) (y : D) : appL S xs [y] = if xs.length < 16777216 then some (xs ++ [y], [y]) else none := id rfl
def extO (xs : List D) (d : D) : Option (List D × List D) := match d with
  | .lst zs => if xs.length + zs.length ≤ 16777216 then some (xs ++ zs, zs) else none
  | _ => none
@[simp] theorem extO_lst (xs zs : List D) : extO xs (.lst zs) = if xs.length + zs.length ≤ 16777216 then some (xs ++ zs, zs) else none := id rfl
@[simp] theorem extL_one (S : Sto) (xs : List D) (y : D) : extL S xs [y] = extO xs (deref S y) := id rfl
@[simp] theorem clrL_nil (S : Sto) (xs : List D) : clrL S xs [] = some ([], []) := id rfl
@[simp] theorem revL_nil (S : Sto) (xs : List D) : revL S xs [] = some (xs.reverse, []) := id rfl

/-! ### while -/
noncomputable def whR (f : Fl) (t : ST) (body : SS) (b : Nat) (e : Env) (S : Sto) : R Fl := match f with
  | .nx => whileM t body b e S
  | .ct => whileM t body b e S
  | .bk => .ok .nx e S
  | .ret d => .ok (.ret d) e S
@[simp] theorem whR_nx (t : ST) (body : SS) (b : Nat) (e : Env) (S : Sto) : whR .nx t body b e S = whileM t body b e S := id rfl
@[simp] theorem whR_ct (t : ST) (body : SS) (b : Nat) (e : Env) (S : Sto) : whR .ct t body b e S = whileM t body b e S := id rfl
@[simp] theorem whR_bk (t : ST) (body : SS) (b : Nat) (e : Env) (S : Sto) : whR .bk t body b e S = .ok .nx e S := id rfl
@[simp] theorem whR_ret (d : D) (t : ST) (body : SS) (b : Nat) (e : Env) (S : Sto) : whR (.ret d) t body b e S = .ok (.ret d) e S := id rfl
theorem whileM_ap (t : ST) (body : SS) (b : Nat) (e : Env) (S : Sto) : whileM t body b e S = (t b e S).bnd fun k e S => if k = true then (body b e S).bnd fun f e S => whR f t body b e S else .ok .nx e S := by
  rw [whileM_eq]
  rfl

/-! ### bits, shifts -/
@[simp] theorem bandS_int (S : Sto) (i j : Int) : bandS S (.int i) (.int j) = if 0 ≤ i ∧ 0 ≤ j then some (.int ((i.toNat &&& j.toNat : Nat) : Int)) else none := id rfl
@[simp] theorem shrS_int (S : Sto) (i j : Int) : shrS S (.int i) (.int j) = if 0 ≤ j then some (.int (i / 2 ^ j.toNat)) else none := id rfl
theorem band_mask {i : Int} (h : 0 ≤ i) (k : Nat) : ((i.toNat &&& (2 ^ k - 1) : Nat) : Int) = i % 2 ^ k := by
  rw [Nat.and_two_pow_sub_one_eq_mod]
  obtain ⟨n, rfl⟩ : ∃ n : Nat, i = n := ⟨i.toNat, by omega⟩
  simp
@[simp] theorem band_1 (n : Nat) : n &&& 1 = n % 2 := Nat.and_two_pow_sub_one_eq_mod n 1
@[simp] theorem band_7 (n : Nat) : n &&& 7 = n % 8 := Nat.and_two_pow_sub_one_eq_mod n 3
@[simp] theorem band_15 (n : Nat) : n &&& 15 = n % 16 := Nat.and_two_pow_sub_one_eq_mod n 4
@[simp] theorem band_63 (n : Nat) : n &&& 63 = n % 64 := Nat.and_two_pow_sub_one_eq_mod n 6

/-! ### a new list by + -/
def adlR (d d' : D) (e : Env) (S : Sto) : R (List D) := match d, d' with
  | .lst xs, .lst ys => if xs.length + ys.length ≤ line then .ok (xs ++ ys) e S else .stuck
  | _, _ => .stuck
@[simp] theorem adlR_lst (xs ys : List D) (e : Env) (S : Sto) : adlR (.lst xs) (.lst ys) e S = if xs.length + ys.length ≤ 16777216 then .ok (xs ++ ys) e S else .stuck := id rfl
@[simp] theorem addA_ap (a c : SE) (b : Nat) (e : Env) (S : Sto) : addA a c b e S = (a b e S).bnd fun x e S => (c b e S).bnd fun y e S => adlR (deref S x) (deref S y) e S := id rfl
/-! ### operands that are lists of the store -/
def addD (x y : D) : Option D := match x, y with
  | .int i, .int j => some (.int (i + j))
  | .str a, .str b => if a.length + b.length ≤ line then some (.str (a ++ b)) else none
  | .byt a, .byt b => if a.length + b.length ≤ line then some (.byt (a ++ b)) else none
  | .lst a, .lst b => if a.length + b.length ≤ line then some (.lst (a ++ b)) else none
  | _, _ => none
@[simp] theorem addS_rl (S : Sto) (i : Nat) (y : D) : addS S (.ref i) y = addD (drO i S[i]?) (deref S y) := id rfl
@[simp] theorem addS_lr (S : Sto) (xs : List D) (i : Nat) : addS S (.lst xs) (.ref i) = addD (.lst xs) (drO i S[i]?) := id rfl
@[simp] theorem addD_lst (a b : List D) : addD (.lst a) (.lst b) = if a.length + b.length ≤ 16777216 then some (.lst (a ++ b)) else none := id rfl
@[simp] theorem addD_int (i j : Int) : addD (.int i) (.int j) = some (.int (i + j)) := id rfl
def mulD (x y : D) : Option D := match x, y with
  | .int i, .int j => if mulOk i j = true then some (.int (i * j)) else none
  | .lst a, .int k => if (-9223372036854775808 ≤ k ∧ k < 9223372036854775808) ∧ a.length * k.toNat ≤ line then some (.lst (List.replicate k.toNat a).flatten) else none
  | _, _ => none
@[simp] theorem mulS_ref (S : Sto) (i : Nat) (y : D) : mulS S (.ref i) y = mulD (drO i S[i]?) y := id rfl
@[simp] theorem mulD_lst (a : List D) (k : Int) : mulD (.lst a) (.int k) = if (-9223372036854775808 ≤ k ∧ k < 9223372036854775808) ∧ a.length * k.toNat ≤ 16777216 then some (.lst (List.replicate k.toNat a).flatten) else none := id rfl
@[simp] theorem mulS_lst (S : Sto) (a : List D) (k : Int) : mulS S (.lst a) (.int k) = if (-9223372036854775808 ≤ k ∧ k < 9223372036854775808) ∧ a.length * k.toNat ≤ 16777216 then some (.lst (List.replicate k.toNat a).flatten) else none := id rfl
@[simp] theorem flat_one (d : D) (k : Nat) : (List.replicate k [d]).flatten = List.replicate k d := by
  induction k with
  | zero => rfl
  | succ k ih => rw [List.replicate_succ, List.flatten_cons, ih, List.replicate_succ]; rfl
@[simp] theorem truth_ref (S : Sto) (i : Nat) : truth S (.ref i) = truthD (drO i S[i]?) := id rfl
@[simp] theorem truthD_lst (xs : List D) : truthD (.lst xs) = some (!xs.isEmpty) := id rfl
@[simp] theorem eqS_rl (S : Sto) (i : Nat) (y : D) : eqS S (.ref i) y = eqD (drO i S[i]?) (deref S y) := id rfl
@[simp] theorem neS_rl (S : Sto) (i : Nat) (y : D) : neS S (.ref i) y = (eqD (drO i S[i]?) (deref S y)).map (!·) := id rfl

@[simp] theorem limL_append (n : Nat) (xs ys : List D) : limL n (xs ++ ys) = (limL n xs && limL n ys) := by
  induction xs with
  | nil => simp
  | cons x r ih => simp [ih, Bool.and_assoc]
theorem limL_replicate {n k : Nat} {d : D} (h : d.lim n = true) : limL n (List.replicate k d) = true := by
  rw [limL_mem]
  exact fun x hx => by rw [List.eq_of_mem_replicate hx]; exact h

/-! ### figures and casts -/
@[simp] theorem lit_le (n k : Nat) : ((no_index (OfNat.ofNat n : Int)) ≤ (k : Int)) ↔ (OfNat.ofNat n : Nat) ≤ k := by
  show ((n : Int) ≤ k) ↔ n ≤ k; omega
@[simp] theorem le_lit (n k : Nat) : ((k : Int) ≤ (no_index (OfNat.ofNat n : Int))) ↔ k ≤ (OfNat.ofNat n : Nat) := by
  show ((k : Int) ≤ n) ↔ k ≤ n; omega
@[simp] theorem lit_lt (n k : Nat) : ((no_index (OfNat.ofNat n : Int)) < (k : Int)) ↔ (OfNat.ofNat n : Nat) < k := by
  show ((n : Int) < k) ↔ n < k; omega
@[simp] theorem lt_lit (n k : Nat) : ((k : Int) < (no_index (OfNat.ofNat n : Int))) ↔ k < (OfNat.ofNat n : Nat) := by
  show ((k : Int) < n) ↔ k < n; omega
@[simp] theorem eq_lit (n k : Nat) : ((k : Int) = (no_index (OfNat.ofNat n : Int))) ↔ k = (OfNat.ofNat n : Nat) := by
  show ((k : Int) = n) ↔ k = n; omega
@[simp] theorem div_nn (b n : Nat) : 0 ≤ (b : Int) / (no_index (OfNat.ofNat n : Int)) := by
  show 0 ≤ (b : Int) / (n : Int)
  exact Int.ediv_nonneg (by omega) (by omega)
@[simp] theorem max_div (b n : Nat) : max ((b : Int) / (no_index (OfNat.ofNat n : Int))) 0 = (b : Int) / (no_index (OfNat.ofNat n : Int)) := Int.max_eq_left (div_nn b n)

/-! ### comprehensions -/
@[simp] theorem wipeE_nil (e : Env) : wipeE e [] = e := id rfl
@[simp] theorem wipeE_cons (e : Env) (v : Nat) (vs : List Nat) : wipeE e (v :: vs) = (wipeE e vs).set v none := id rfl
@[simp] theorem restE_nil (e0 e : Env) : restE [] e0 e = e := id rfl
@[simp] theorem restE_cons (v : Nat) (vs : List Nat) (e0 e : Env) : restE (v :: vs) e0 e = (restE vs e0 e).set v ((e0[v]?).getD none) := id rfl
@[simp] theorem ctN_ap (i : Nat) (d : D) (e : Env) : ctN i d e = if i < e.length then some (e.set i (some d)) else none := id rfl
@[simp] theorem ctsNil_ap (e : Env) : ctsNil [] e = some e := id rfl
@[simp] theorem ctsCons_ap (g : CT) (r : List D → Env → Option Env) (d : D) (ds : List D) (e : Env) : ctsCons g r (d :: ds) e = (g d e).bind fun e => r ds e := id rfl
@[simp] theorem ctT_ap (n : Nat) (r : List D → Env → Option Env) (xs : List D) (e : Env) : ctT n r (.tup xs) e = if xs.length = n then r xs e else none := id rfl
@[simp] theorem yesT_ap (b : Nat) (e : Env) (S : Sto) : yesT b e S = .ok true e S := id rfl
/-- one turn of a comprehension -/
def compT (vs : List Nat) (t : ST) (x : SE) (b : Nat) (o : Option Env) (S : Sto) : R (Option D) := match o with
  | none => .stuck
  | some e1 => (t b e1 S).bnd fun k e2 S2 => if k = true then (x b e2 S2).bnd fun y e3 S3 => .ok (some y) (wipeE e3 vs) S3 else .ok none (wipeE e2 vs) S2
@[simp] theorem compT_some (vs : List Nat) (t : ST) (x : SE) (b : Nat) (e1 : Env) (S : Sto) : compT vs t x b (some e1) S = (t b e1 S).bnd fun k e2 S2 => if k = true then (x b e2 S2).bnd fun y e3 S3 => .ok (some y) (wipeE e3 vs) S3 else .ok none (wipeE e2 vs) S2 := id rfl
def compK (id : Nat) (vs : List Nat) (g : CT) (t : ST) (x : SE) (b : Nat) (ds : List D) (e' : Env) (S' : Sto) (o : Option D) : R Unit := match o with
  | some y => (match S'[id]? with
    | some (.lst w acc) => if acc.length < line then compL id vs g t x b ds e' (S'.set id (.lst w (acc ++ [y]))) else .stuck
    | _ => .stuck)
  | none => compL id vs g t x b ds e' S'
theorem compL_cons {id : Nat} {vs : List Nat} {g : CT} {t : ST} {x : SE} {b : Nat} {d : D} {ds : List D} {e e' : Env} {S S' : Sto} {o : Option D} (h : compT vs t x b (g d e) S = .ok o e' S') :
    compL id vs g t x b (d :: ds) e S = compK id vs g t x b ds e' S' o := by
  rw [compL]
  revert h
  cases g d e with
  | none => intro h; cases h
  | some e1 =>
    simp only [compT_some, R.bnd]
    cases t b e1 S with
    | stuck => intro h; cases h
    | exc c fs e S => intro h; cases h
    | ok k e2 S2 =>
      simp only [R.bind_ok]
      cases k with
      | false => intro h; cases h; rfl
      | true =>
        simp only [if_true]
        cases x b e2 S2 with
        | stuck => intro h; cases h
        | exc c fs e S => intro h; cases h
        | ok y e3 S3 => intro h; cases h; rfl
/-- a comprehension whose turns leave the store as it is -/
theorem compL_run (h : D → Option D) {vs : List Nat} {g : CT} {t : ST} {x : SE} {b : Nat} {e : Env} {S : Sto} {w : Bool} : ∀ (ds acc : List D), acc.length + ds.length ≤ 16777216 →
    (∀ d ∈ ds, ∀ acc, compT vs t x b (g d e) (S ++ [.lst w acc]) = .ok (h d) e (S ++ [.lst w acc])) →
    compL S.length vs g t x b ds e (S ++ [.lst w acc]) = .ok () e (S ++ [.lst w (acc ++ ds.filterMap h)])
  | [], acc, _, _ => by rw [compL]; simp
  | d :: ds, acc, hl, ht => by
    rw [compL_cons (ht d List.mem_cons_self acc)]
    have ih := fun acc hl => compL_run h (vs := vs) (g := g) (t := t) (x := x) (b := b) (e := e) (S := S) (w := w) ds acc hl (fun d hd => ht d (List.mem_cons_of_mem _ hd))
    simp only [List.length_cons] at hl
    cases hd : h d with
    | none =>
      simp only [List.filterMap_cons, hd, compK]
      exact ih acc (by omega)
    | some y =>
      have hn : acc.length < line := by simp; omega
      have := ih (acc ++ [y]) (by simp; omega)
      simp only [compK, app_at, app_set, hn, if_true]
      rw [this]
      simp [hd]
def cvO (n : Nat) (e : Env) (S : Sto) (o : Option Ob) : R D := match o with
  | some (.lst _ acc) => .ok (.lst acc) e (S.set n .dead)
  | _ => .stuck
@[simp] theorem cvO_lst (n : Nat) (e : Env) (S : Sto) (w : Bool) (acc : List D) : cvO n e S (some (.lst w acc)) = .ok (.lst acc) e (S.set n .dead) := id rfl
def cvR (n : Nat) (vs : List Nat) (e : Env) (r : R Unit) : R D := match r with
  | .ok _ e' S' => cvO n (restE vs e e') S' S'[n]?
  | _ => .stuck
@[simp] theorem cvR_ok (n : Nat) (vs : List Nat) (e e' : Env) (S' : Sto) : cvR n vs e (.ok () e' S') = cvO n (restE vs e e') S' S'[n]? := id rfl
@[simp] theorem compV_ap (it : SA) (vs : List Nat) (g : CT) (t : ST) (x : SE) (b : Nat) (e : Env) (S : Sto) : compV it vs g t x b e S = (it b e S).bnd fun xs e S => cvR S.length vs e (compL S.length vs g t x b xs (wipeE e vs) (S ++ [.lst true []])) := by
  unfold compV compR
  cases it b e S with
  | stuck => rfl
  | exc c fs e S => rfl
  | ok xs e S =>
    simp only [R.bnd_ok, R.bind_ok]
    cases compL S.length vs g t x b xs (wipeE e vs) (S ++ [.lst true []]) with
    | stuck => rfl
    | exc c fs e S => rfl
    | ok u e' S' =>
      cases u
      simp only [R.bind_ok, cvR_ok]
      unfold cvO
      cases S'[S.length]? with
      | none => rfl
      | some ob => cases ob <;> rfl
def coR (n : Nat) (vs : List Nat) (e : Env) (r : R Unit) : R D := match r with
  | .ok _ e' S' => .ok (.ref n) (restE vs e e') S'
  | _ => .stuck
@[simp] theorem coR_ok (n : Nat) (vs : List Nat) (e e' : Env) (S' : Sto) : coR n vs e (.ok () e' S') = .ok (.ref n) (restE vs e e') S' := id rfl
@[simp] theorem compO_ap (w : Bool) (it : SA) (vs : List Nat) (g : CT) (t : ST) (x : SE) (b : Nat) (e : Env) (S : Sto) : compO w it vs g t x b e S = (it b e S).bnd fun xs e S => coR S.length vs e (compL S.length vs g t x b xs (wipeE e vs) (S ++ [.lst w []])) := by
  unfold compO compR
  cases it b e S with
  | stuck => rfl
  | exc c fs e S => rfl
  | ok xs e S =>
    simp only [R.bnd_ok, R.bind_ok]
    cases compL S.length vs g t x b xs (wipeE e vs) (S ++ [.lst w []]) with
    | stuck => rfl
    | exc c fs e S => rfl
    | ok u e' S' => cases u; rfl
@[simp] theorem isi_lt_non (S : Sto) : isiO tyt_list_tuple S (.non : D) = some false := id rfl
@[simp] theorem isi_lt_bl (S : Sto) (k : Bool) : isiO tyt_list_tuple S (.bl k : D) = some false := id rfl
@[simp] theorem isi_lt_int (S : Sto) (k : Int) : isiO tyt_list_tuple S (.int k : D) = some false := id rfl
@[simp] theorem isi_lt_str (S : Sto) (k : List Nat) : isiO tyt_list_tuple S (.str k : D) = some false := id rfl
@[simp] theorem isi_lt_byt (S : Sto) (k : List Nat) : isiO tyt_list_tuple S (.byt k : D) = some false := id rfl
@[simp] theorem isi_lt_lst (S : Sto) (k : List D) : isiO tyt_list_tuple S (.lst k : D) = some true := id rfl
@[simp] theorem isi_lt_frz (S : Sto) (k : List D) : isiO tyt_list_tuple S (.frz k : D) = some true := id rfl
@[simp] theorem isi_lt_tup (S : Sto) (k : List D) : isiO tyt_list_tuple S (.tup k : D) = some true := id rfl
@[simp] theorem isi_lt_edi (S : Sto) : isiO tyt_list_tuple S (.edi : D) = some false := id rfl
/-- raises, and P of the store -/
@[irreducible] def Raises {α : Type} (r : R α) (c : String) (fs : List (String × D)) (P : Sto → Prop) : Prop := match r with
  | .exc c' fs' _ S' => c' = c ∧ fs' = fs ∧ P S'
  | _ => False
@[simp] theorem raises_exc {α : Type} (c c' : String) (fs fs' : List (String × D)) (e : Env) (S : Sto) (P : Sto → Prop) : Raises (.exc c' fs' e S : R α) c fs P ↔ c' = c ∧ fs' = fs ∧ P S := by unfold Raises; exact Iff.rfl
theorem Raises.inv {α : Type} {r : R α} {c : String} {fs : List (String × D)} {P : Sto → Prop} (h : Raises r c fs P) : ∃ e S', r = .exc c fs e S' ∧ P S' := by
  unfold Raises at h
  cases r with
  | exc c' fs' e S' => obtain ⟨rfl, rfl, h⟩ := h; exact ⟨e, S', rfl, h⟩
  | ok a e S => exact h.elim
  | stuck => exact h.elim
/-- ends, and P of the store -/
@[irreducible] def Ends (r : R Fl) (f : Fl) (P : Env → Sto → Prop) : Prop := match r with
  | .ok f' e S' => f' = f ∧ P e S'
  | _ => False
@[simp] theorem ends_ok (f f' : Fl) (e : Env) (S : Sto) (P : Env → Sto → Prop) : Ends (.ok f' e S) f P ↔ f' = f ∧ P e S := by unfold Ends; exact Iff.rfl
theorem Ends.inv {r : R Fl} {f : Fl} {P : Env → Sto → Prop} (h : Ends r f P) : ∃ e S', r = .ok f e S' ∧ P e S' := by
  unfold Ends at h
  cases r with
  | ok f' e S' => obtain ⟨rfl, h⟩ := h; exact ⟨e, S', rfl, h⟩
  | exc c' fs' e S' => exact h.elim
  | stuck => exact h.elim

theorem Goes.mono {r : R Fl} {P Q : Env → Sto → Prop} (h : Goes r P) (hq : ∀ e S, P e S → Q e S) : Goes r Q := by
  unfold Goes at *
  cases r with
  | stuck => exact h
  | exc c fs e S => exact h
  | ok f e S => cases f <;> first | exact hq _ _ h | exact h
/-! ### turns that are counted -/
theorem loop_goesN (P : Nat → Env → Sto → Prop) {g : SG} {body : SS} {b : Nat} : ∀ (ds : List D) (k : Nat), (∀ d ∈ ds, ∀ j, k ≤ j → j < k + ds.length → ∀ e S, P j e S → Goes ((g b d e S).bnd fun _ e S => body b e S) (P (j + 1))) → ∀ e S, P k e S → Ends (loopM g body b ds e S) .nx (P (k + ds.length))
  | [], k, _, e, S, p => by rw [loopM_nil, ends_ok]; exact ⟨rfl, p⟩
  | d :: ds, k, h, e, S, p => by
    have h1 := h d List.mem_cons_self k (Nat.le_refl _) (by simp) e S p
    unfold Goes at h1
    rw [loopM_cons]
    have ih := fun e S p => loop_goesN P ds (k + 1) (fun d hd j h1 h2 => h d (List.mem_cons_of_mem _ hd) j (by omega) (by simp; omega)) e S p
    have hk : k + (d :: ds).length = k + 1 + ds.length := by simp; omega
    rw [hk]
    revert h1
    cases g b d e S with
    | stuck => exact fun h1 => h1.elim
    | exc c fs e1 S1 => exact fun h1 => h1.elim
    | ok u e1 S1 =>
      rw [R.bnd_ok, R.bnd_ok]
      cases body b e1 S1 with
      | stuck => exact fun h1 => h1.elim
      | exc c fs e2 S2 => exact fun h1 => h1.elim
      | ok f e2 S2 =>
        rw [R.bnd_ok]
        cases f with
        | nx => exact fun h1 => ih e2 S2 h1
        | ct => exact fun h1 => ih e2 S2 h1
        | bk => exact fun h1 => h1.elim
        | ret d => exact fun h1 => h1.elim
/-! ### a store whose i-th thing turns, and own things behind it -/
@[simp] theorem set_own (S : Sto) (i : Nat) (a x y : Ob) (l : Sto) : (S.set i a ++ x :: l).set S.length y = S.set i a ++ y :: l := by
  have : S.length = (S.set i a).length := by simp
  rw [this, app_set]
@[simp] theorem get_own (S : Sto) (i : Nat) (a x : Ob) (l : Sto) : (S.set i a ++ x :: l)[S.length]? = some x := by
  have : S.length = (S.set i a).length := by simp
  rw [this, app_at]
@[simp] theorem take_own (S : Sto) (i : Nat) (a : Ob) (l : Sto) : (S.set i a ++ l).take S.length = S.set i a := by
  have : S.length = (S.set i a).length := by simp
  rw [this, List.take_left']
  rfl
@[simp] theorem set_own1 (S : Sto) (i : Nat) (a o x y : Ob) (l : Sto) : (S.set i a ++ o :: x :: l).set (S.length + 1) y = S.set i a ++ o :: y :: l := by
  have : S.length + 1 = (S.set i a).length + 1 := by simp
  rw [this, app_set1]
@[simp] theorem get_own1 (S : Sto) (i : Nat) (a o x : Ob) (l : Sto) : (S.set i a ++ o :: x :: l)[S.length + 1]? = some x := by
  have : S.length + 1 = (S.set i a).length + 1 := by simp
  rw [this, app_at1]
end Mir
end

/-! MirWord2 -/
section
set_option linter.all false
/-! MirWord2: how the words of MirWord are worked out. -/
namespace Mir
@[simp] theorem eqB_ok (neg k : Bool) (e e' : Env) (S : Sto) : eqB neg (.ok (.bl k) e' S) e = .ok (if neg then !k else k) e S := id rfl
@[simp] theorem eqTM_ap (neg : Bool) (c : String) (m : SF) (a b : SE) (bd : Nat) (e : Env) (S : Sto) : eqTM neg c m a b bd e S = (a bd e S).bnd fun x e S => (b bd e S).bnd fun y e S => eqR neg c m x y e S := id rfl
theorem eqR_own {neg : Bool} {c : String} {m : SF} {x y : D} {e : Env} {S : Sto} {f1 f2 : List (String × D)} (h1 : classOf S x = some (c, f1)) (h2 : classOf S y = some (c, f2)) : eqR neg c m x y e S = eqB neg (m [x, y] S) e := by
  unfold eqR ownOf
  rw [h1, h2]
  simp
theorem eqR_no {neg : Bool} {c : String} {m : SF} {x y : D} {e : Env} {S : Sto} (h : classOf S x = none) : eqR neg c m x y e S = R.opt (if neg then neS S x y else eqS S x y) e S := by
  unfold eqR ownOf
  rw [h]
  simp
theorem isi_own {tbl : List (String × Bool)} {S : Sto} {x : D} {c : String} {fs : List (String × D)} {k : Bool} (h : classOf S x = some (c, fs)) : isiO ((c, k) :: tbl) S x = some k := by
  unfold isiO; rw [h]; simp
theorem isi_tyC {S : Sto} {x : D} {c : String} {fs : List (String × D)} (h : classOf S x = some (c, fs)) : isiO (tyC c) S x = some true := isi_own h
theorem isi_skip_int (S : Sto) (k : Int) (b : Bool) (tbl : List (String × Bool)) : isiO (("Table", b) :: tbl) S (.int k) = isiO tbl S (.int k) := rfl
@[simp] theorem slcTM_ap (a : SE) (lo hi : Option SE) (b : Nat) (e : Env) (S : Sto) : slcTM a lo hi b e S = (a b e S).bnd fun x e S => (partM lo b e S).bnd fun l e S => (partM hi b e S).bnd fun u e S => R.opt (slcTS x l u) e S := id rfl
@[simp] theorem slcTS_tup (xs : List D) (l u : Option Int) : slcTS (.tup xs) l u = some (.tup (cutL xs l u)) := id rfl
def parR (i j : Nat) (xs : List D) (e : Env) (S : Sto) : R Fl := match xs with
  | [x, y] => if i < e.length ∧ j < e.length then .ok .nx ((e.set i (some x)).set j (some y)) S else .stuck
  | _ => .stuck
@[simp] theorem parR_two (i j : Nat) (x y : D) (e : Env) (S : Sto) : parR i j [x, y] e S = if i < e.length ∧ j < e.length then .ok .nx ((e.set i (some x)).set j (some y)) S else .stuck := id rfl
@[simp] theorem parM_ap (i j : Nat) (a : SA) (b : Nat) (e : Env) (S : Sto) : parM i j a b e S = (a b e S).bnd fun xs e S => parR i j xs e S := id rfl
@[simp] theorem seqD_lst (xs : List D) : seqD (.lst xs) = some xs := id rfl
@[simp] theorem seqD_frz (xs : List D) : seqD (.frz xs) = some xs := id rfl
@[simp] theorem seqD_tup (xs : List D) : seqD (.tup xs) = some xs := id rfl
@[simp] theorem starA_ap (a : SE) (r : SA) (b : Nat) (e : Env) (S : Sto) : starA a r b e S = (a b e S).bnd fun x e S => (R.opt (seqD (deref S x)) e S).bnd fun xs e S => (r b e S).bnd fun ys e S => .ok (xs ++ ys) e S := id rfl
theorem maxS_lst (S : Sto) (xs : List D) {n : Int} {r : List Int} (h : intsOf xs = some (n :: r)) : maxS S [.lst xs] = some (.int (r.foldl max n)) := by
  show (match intsOf xs with
    | some (n :: r) => some (D.int (r.foldl max n))
    | _ => none) = _
  rw [h]
end Mir
end

/-! MirWord3 -/
section
set_option linter.all false
/-! MirWord3: more words, and how they are worked out. -/
namespace Mir
/-! ### texts of numbers -/
/-- the figures of a whole number -/
def figs (i : Int) : List Nat := cps (toString i)
def fmtS (_ : Sto) (x : D) : Option D := match x with
  | .str s => if s.length ≤ line then some (.str s) else none
  | .int i => if i.natAbs.log2 < 1920 then some (.str (figs i)) else none
  | _ => none
@[simp] theorem fmtS_int (S : Sto) (i : Int) : fmtS S (.int i) = if i.natAbs.log2 < 1920 then some (.str (figs i)) else none := id rfl
@[simp] theorem fmtS_str (S : Sto) (s : List Nat) : fmtS S (.str s) = if s.length ≤ line then some (.str s) else none := id rfl
def strS (_ : Sto) (ds : List D) : Option D := match ds with
  | [.int i] => if i.natAbs.log2 < 1920 then some (.str (figs i)) else none
  | [.str s] => some (.str s)
  | _ => none
@[simp] theorem strS_int (S : Sto) (i : Int) : strS S [.int i] = if i.natAbs.log2 < 1920 then some (.str (figs i)) else none := id rfl
@[simp] theorem strS_str (S : Sto) (s : List Nat) : strS S [.str s] = some (.str s) := id rfl
/-- f'..' -/
def fsR : List SE → List Nat → SE
  | [], acc => fun _ e S => .ok (.str acc) e S
  | t :: ts, acc => fun b e S => (t b e S).bind fun x e S => match x with
    | .str y => if acc.length + y.length ≤ line then fsR ts (acc ++ y) b e S else .stuck
    | _ => .stuck
def fsK (ts : List SE) (acc : List Nat) (b : Nat) (x : D) (e : Env) (S : Sto) : R D := match x with
    | .str y => if acc.length + y.length ≤ line then fsR ts (acc ++ y) b e S else .stuck
    | _ => .stuck
@[simp] theorem fsK_str (ts : List SE) (acc y : List Nat) (b : Nat) (e : Env) (S : Sto) : fsK ts acc b (.str y) e S = if acc.length + y.length ≤ line then fsR ts (acc ++ y) b e S else .stuck := id rfl
@[simp] theorem fsR_nil (acc : List Nat) (b : Nat) (e : Env) (S : Sto) : fsR [] acc b e S = .ok (.str acc) e S := id rfl
@[simp] theorem fsR_cons (t : SE) (ts : List SE) (acc : List Nat) (b : Nat) (e : Env) (S : Sto) : fsR (t :: ts) acc b e S = (t b e S).bnd fun x e S => fsK ts acc b x e S := id rfl
/-! ### enumerate(zip(x, y)) -/
def rowD : D → Option (List D)
  | .lst xs => some xs
  | .frz xs => some xs
  | .tup xs => some xs
  | .byt s => some (s.map fun (c : Nat) => .int (c : Int))
  | _ => none
@[simp] theorem rowD_lst (xs : List D) : rowD (.lst xs) = some xs := id rfl
@[simp] theorem rowD_frz (xs : List D) : rowD (.frz xs) = some xs := id rfl
@[simp] theorem rowD_tup (xs : List D) : rowD (.tup xs) = some xs := id rfl
@[simp] theorem rowD_byt (s : List Nat) : rowD (.byt s) = some (s.map fun (c : Nat) => .int (c : Int)) := id rfl
def zipT (xs ys : List D) : List D := (xs.zip ys).map fun p => .tup [p.1, p.2]
def ezR (x y : D) (e : Env) (S : Sto) : R (List D) := match rowD x, rowD y with
  | some xs, some ys => .ok (enumFrom_ 0 (zipT xs ys)) e S
  | _, _ => .stuck
def ezM (a c : SE) : SA := fun b e S => (a b e S).bind fun x e S => (c b e S).bind fun y e S => ezR x y e S
@[simp] theorem ezM_ap (a c : SE) (b : Nat) (e : Env) (S : Sto) : ezM a c b e S = (a b e S).bnd fun x e S => (c b e S).bnd fun y e S => ezR x y e S := id rfl
theorem ezR_ok {x y : D} {xs ys : List D} (h1 : rowD x = some xs) (h2 : rowD y = some ys) (e : Env) (S : Sto) : ezR x y e S = .ok (enumFrom_ 0 (zipT xs ys)) e S := by
  unfold ezR; rw [h1, h2]
/-- zip(x, y) -/
def zzR (x y : D) (e : Env) (S : Sto) : R (List D) := match x, y with
  | .lst xs, .lst ys => .ok (zipT xs ys) e S
  | .tup xs, .tup ys => .ok (zipT xs ys) e S
  | _, _ => .stuck
def zzM (a c : SE) : SA := fun b e S => (a b e S).bind fun x e S => (c b e S).bind fun y e S => zzR x y e S
@[simp] theorem zzM_ap (a c : SE) (b : Nat) (e : Env) (S : Sto) : zzM a c b e S = (a b e S).bnd fun x e S => (c b e S).bnd fun y e S => zzR x y e S := id rfl
@[simp] theorem zzR_lst (xs ys : List D) (e : Env) (S : Sto) : zzR (.lst xs) (.lst ys) e S = .ok (zipT xs ys) e S := id rfl
@[simp] theorem zzR_tup (xs ys : List D) (e : Env) (S : Sto) : zzR (.tup xs) (.tup ys) e S = .ok (zipT xs ys) e S := id rfl
/-! ### x[::-1] -/
def rvsS (S : Sto) (x : D) : Option D := match deref S x with
  | .byt s => some (.byt s.reverse)
  | .lst xs => some (.lst xs.reverse)
  | .frz xs => some (.lst xs.reverse)
  | _ => none
def rvsD (x : D) : Option D := match x with
  | .byt s => some (.byt s.reverse)
  | .lst xs => some (.lst xs.reverse)
  | .frz xs => some (.lst xs.reverse)
  | _ => none
@[simp] theorem rvsS_ap (S : Sto) (x : D) : rvsS S x = rvsD (deref S x) := id rfl
@[simp] theorem rvsD_byt (s : List Nat) : rvsD (.byt s) = some (.byt s.reverse) := id rfl
@[simp] theorem rvsD_lst (xs : List D) : rvsD (.lst xs) = some (.lst xs.reverse) := id rfl
end Mir
end

/-! Sh2 -/
section
set_option linter.all false
set_option maxRecDepth 100000
/-! Sh2: meanings of more defs that several laws share (written by gen3.py). -/
namespace Mir.Sh
open Mir
noncomputable def l__law_edit_0 : SS := fun b e S => (ifM (cmpT notS (rawM 3) (cM .non)) (asgM (op2 addS (rawM 2) (frzM (lstA (consA (op2 idxS (rawM 3) (cM (.int 0))) (consA (op2 idxS (rawM 3) (cM (.int 1))) (nilA)))))) (gnM 2)) (nxM)) b e S
noncomputable def b__law_edit_0 : SS := fun b e S => (asgM (frzM (lstA (consA (cM (.int 1)) (nilA)))) (gnM 2)) b e S
noncomputable def b__law_edit_1 : SS := fun b e S => (forM (itemsM (varM 1)) (gnM 3) (l__law_edit_0)) b e S
noncomputable def b__law_edit_2 : SS := fun b e S => (asgM (fnA min2S (consA (cM (.int 2147483647)) (consA (fnA max2S (consA (cM (.int 1)) (consA (op2 subS (op2 addS (callM m__law_one 2 (consA (varM 0) (consA (varM 2) (nilA)))) (callM m__law_draw 2 (consA (varM 0) (consA (cM (.int 5)) (nilA))))) (cM (.int 2))) nilA))) nilA))) (gnM 4)) b e S
noncomputable def b__law_edit_3 : SS := fun b e S => (asgM (frzM (lstA (consA (cM (.int 0)) (consA (cM (.int 0)) (consA (cM (.int 1)) (consA (cM (.int 2)) (consA (callM m__law_draw 2 (consA (varM 0) (consA (cM (.int 90)) (nilA)))) (consA (op2 subS (cM (.int 2147483647)) (callM m__law_draw 2 (consA (varM 0) (consA (cM (.int 3)) (nilA))))) (nilA))))))))) (gnM 5)) b e S
noncomputable def b__law_edit_4 : SS := fun b e S => (retM (tupM (consA (varM 4) (consA (callM m__law_one 2 (consA (varM 0) (consA (varM 5) (nilA)))) (consA (callM m__law_one 2 (consA (varM 0) (consA (varM 5) (nilA)))) (nilA)))))) b e S
noncomputable def m__law_edit : SF := fnM 6 false (seqM b__law_edit_0 (seqM b__law_edit_1 (seqM b__law_edit_2 (seqM b__law_edit_3 (b__law_edit_4)))))
noncomputable def b_row_of_0 : SS := fun b e S => (ifM (cmpT isS (rawM 2) (cM .non)) (retM (fsR [op1 fmtS (rawM 0), cM (.str (cps "-")), op1 fmtS (rawM 1), cM (.str (cps " none"))] [])) (nxM)) b e S
noncomputable def b_row_of_1 : SS := fun b e S => (asgM (varM 2) (gqM 4 (gsCons (gnM 3) (gsCons (gnM 4) (gsCons (gnM 5) (gsCons (gnM 6) (gsNil))))))) b e S
noncomputable def b_row_of_2 : SS := fun b e S => (ifM (cmpT isS (rawM 5) (cM .non)) (retM (fsR [op1 fmtS (rawM 0), cM (.str (cps "-")), op1 fmtS (rawM 1), cM (.str (cps " ")), op1 fmtS (rawM 3)] [])) (nxM)) b e S
noncomputable def b_row_of_3 : SS := fun b e S => (retM (fsR [op1 fmtS (rawM 0), cM (.str (cps "-")), op1 fmtS (rawM 1), cM (.str (cps " ")), op1 fmtS (rawM 3), cM (.str (cps ":")), op1 fmtS (rawM 5), cM (.str (cps "-")), op1 fmtS (rawM 4), cM (.str (cps ":")), op1 fmtS (rawM 6)] [])) b e S
noncomputable def m_row_of : SF := fnM 7 false (seqM b_row_of_0 (seqM b_row_of_1 (seqM b_row_of_2 (b_row_of_3))))
noncomputable def b_Table_runs_0 : SS := fun b e S => (retM (callM m_runs_of 1 (consA (attrM "held_spans" [("Table", none)] (rawM 0)) (nilA)))) b e S
noncomputable def m_Table_runs : SF := fnM 1 false (b_Table_runs_0)
noncomputable def b_listing_0 : SS := fun b e S => (retM (compV (itemsM (methM "runs" [("Table", 0, m_Table_runs)] (rawM 0) nilA)) [1, 2, 3] (ctT 3 (ctsCons (ctN 1) (ctsCons (ctN 2) (ctsCons (ctN 3) (ctsNil))))) (yesT) (callM m_row_of 3 (consA (varM 1) (consA (varM 2) (consA (varM 3) (nilA))))))) b e S
noncomputable def m_listing : SF := fnM 4 false (b_listing_0)
noncomputable def b_listing_K_0 : SS := fun b e S => (retM (compO true (itemsM (methM "runs" [("Table", 0, m_Table_runs)] (rawM 0) nilA)) [1, 2, 3] (ctT 3 (ctsCons (ctN 1) (ctsCons (ctN 2) (ctsCons (ctN 3) (ctsNil))))) (yesT) (callM m_row_of 3 (consA (varM 1) (consA (varM 2) (consA (varM 3) (nilA))))))) b e S
noncomputable def m_listing_K : SF := fnM 4 true (b_listing_K_0)
end Mir.Sh
end

/-! K33_M -/
section
set_option linter.all false
set_option maxRecDepth 100000
/-! K33_M: the meanings of the defs that the law reaches (written by gen.py). -/
namespace Mir.K33
open Mir Mir.Sh
noncomputable def b__law_idle_0 : SS := fun b e S => (asgM (fnA maxS (consA (op2 addS (frzM (lstA (consA (cM (.int 1)) (nilA)))) (compV (itemsM (varM 1)) [4] (ctN 4) (cmpT notS (rawM 4) (cM .non)) (op2 idxS (rawM 4) (cM (.int 1))))) nilA)) (gnM 2)) b e S
noncomputable def b__law_idle_1 : SS := fun b e S => (asgM (frzM (lstA (consA (tupM (consA (op2 addS (cM (.int 1)) (callM m__law_draw 2 (consA (varM 0) (consA (cM (.int 99)) (nilA))))) (consA (cM (.int 0)) (consA (cM (.int 0)) (nilA))))) (consA (tupM (consA (cM (.int 2147483647)) (consA (cM (.int 0)) (consA (cM (.int 0)) (nilA))))) (nilA))))) (gnM 3)) b e S
noncomputable def b__law_idle_2 : SS := fun b e S => (ifM (cmpT ltS (rawM 2) (cM (.int 2147483647))) (asgM (op2 addS (rawM 3) (frzM (lstA (consA (tupM (consA (op2 addS (rawM 2) (cM (.int 1))) (consA (callM m__law_draw 2 (consA (varM 0) (consA (cM (.int 4)) (nilA)))) (consA (callM m__law_draw 2 (consA (varM 0) (consA (cM (.int 4)) (nilA)))) (nilA))))) (consA (tupM (consA (cM (.int 2147483647)) (consA (cM (.int 1)) (consA (cM (.int 1)) (nilA))))) (nilA)))))) (gnM 3)) (nxM)) b e S
noncomputable def b__law_idle_3 : SS := fun b e S => (retM (varM 3)) b e S
noncomputable def m__law_idle : SF := fnM 5 false (seqM b__law_idle_0 (seqM b__law_idle_1 (seqM b__law_idle_2 (b__law_idle_3))))
noncomputable def b__law_said_0 : SS := fun b e S => (tryM (asgM (callM m_moved 4 (consA (varM 0) (consA (varM 1) (consA (varM 2) (consA (varM 3) (nilA)))))) (gnM 4)) [([("BadTable", false), ("BadLine", true), ("BadSpan", false), ("BadCount", false)], some 5, fun c fs => retM (tupM (consA (cM (.str (cps "line"))) (consA (xfM c fs "BadLine" "line") (nilA))))), ([("BadTable", false), ("BadLine", false), ("BadSpan", false), ("BadCount", true)], some 5, fun c fs => retM (tupM (consA (cM (.str (cps "count"))) (consA (xfM c fs "BadCount" "many") (nilA)))))]) b e S
noncomputable def b__law_said_1 : SS := fun b e S => (retM (tupM (consA (methM "spans" [("Table", 0, m_Table_spans)] (rawM 4) nilA) (consA (frzM (listA (attrM "data" [("Table", some m_Table_data)] (rawM 4)))) (consA (attrM "first_line" [("Table", some m_Table_first_line)] (rawM 4)) (nilA)))))) b e S
noncomputable def m__law_said : SF := fnM 6 false (seqM b__law_said_0 (b__law_said_1))
noncomputable def b__law_moved_0 : SS := fun b e S => (ifM (cmpT isS (rawM 0) (cM .non)) (retM (cM .non)) (nxM)) b e S
noncomputable def b__law_moved_1 : SS := fun b e S => (asgM (compV (itemsM (frzM (lstA (consA (varM 1) (consA (op2 idxS (rawM 0) (cM (.int 0))) (nilA)))))) [6] (ctN 6) (andT (chnT leS leS (op2 idxS (rawM 0) (cM (.int 0))) (rawM 6) (op2 idxS (rawM 0) (cM (.int 1)))) (chnT leS ltS (rawM 1) (rawM 6) (op2 addS (rawM 1) (rawM 2)))) (varM 6)) (gnM 4)) b e S
noncomputable def b__law_moved_2 : SS := fun b e S => (ifM (cmpT neS (rawM 4) (frzM (lstA (nilA)))) (retM (cM .non)) (nxM)) b e S
noncomputable def b__law_moved_3 : SS := fun b e S => (asgM (compV (itemsM (slcTM (rawM 0) (none) (some (cM (.int 2))))) [7] (ctN 7) (yesT) (ifE (cmpT geS (rawM 7) (op2 addS (rawM 1) (rawM 2))) (op2 subS (op2 addS (rawM 7) (rawM 3)) (rawM 2)) (varM 7))) (gnM 5)) b e S
noncomputable def b__law_moved_4 : SS := fun b e S => (retM (tupM (consA (op2 idxS (rawM 5) (cM (.int 0))) (consA (op2 idxS (rawM 5) (cM (.int 1))) (consA (op2 idxS (rawM 0) (cM (.int 2))) (consA (op2 idxS (rawM 0) (cM (.int 3))) (nilA))))))) b e S
noncomputable def m__law_moved : SF := fnM 8 false (seqM b__law_moved_0 (seqM b__law_moved_1 (seqM b__law_moved_2 (seqM b__law_moved_3 (b__law_moved_4)))))
noncomputable def l__law_due_0 : SS := fun b e S => (ifM (cmpT gtS (rawM 7) (cM (.int 2147483647))) (retM (tupM (consA (cM (.str (cps "line"))) (consA (varM 7) (nilA))))) (nxM)) b e S
noncomputable def l__law_due_1 : SS := fun b e S => (ifM (cmpT notS (rawM 6) (cM .non)) (forM (itemsM (slcTM (rawM 6) (none) (some (cM (.int 2))))) (gnM 7) (l__law_due_0)) (nxM)) b e S
noncomputable def b__law_due_0 : SS := fun b e S => (asgM (compV (itemsM (varM 0)) [6] (ctN 6) (yesT) (callM m__law_moved 4 (consA (varM 6) (consA (varM 2) (consA (varM 3) (consA (varM 4) (nilA))))))) (gnM 5)) b e S
noncomputable def b__law_due_1 : SS := fun b e S => (forM (itemsM (varM 5)) (gnM 6) (l__law_due_1)) b e S
noncomputable def b__law_due_2 : SS := fun b e S => (retM (tupM (consA (varM 5) (consA (frzM (listA (attrM "data" [("Table", some m_Table_data)] (callM m_Table_of 2 (consA (varM 5) (consA (varM 1) (nilA))))))) (consA (varM 1) (nilA)))))) b e S
noncomputable def m__law_due : SF := fnM 8 false (seqM b__law_due_0 (seqM b__law_due_1 (b__law_due_2)))
noncomputable def l_law_0 : SS := fun b e S => (ifM (cmpT neS (callM m__law_said 4 (consA (varM 5) (consA (varM 8) (consA (varM 9) (consA (varM 10) (nilA)))))) (callM m__law_due 5 (consA (varM 4) (consA (varM 3) (consA (varM 8) (consA (varM 9) (consA (varM 10) (nilA)))))))) (retM (cM (.bl false))) (nxM)) b e S
noncomputable def l_law_1_9 : SS := fun b e S => (ifM (orT (cmpT neS (callM m__law_said 4 (consA (varM 5) (consA (cM (.int 1)) (consA (cM (.int 2147483647)) (consA (varM 7) (nilA)))))) (tupM (consA (cM (.str (cps "count"))) (consA (varM 7) (nilA))))) (cmpT neS (methM "spans" [("Table", 0, m_Table_spans)] (rawM 5) nilA) (rawM 4))) (retM (cM (.bl false))) (nxM)) b e S
noncomputable def l_law_1_8 : SS := fun b e S => seqM (ifM (orT (cmpT neS (callM m__law_said 4 (consA (varM 5) (consA (varM 6) (consA (varM 7) (consA (varM 7) (nilA)))))) (tupM (consA (cM (.str (cps "line"))) (consA (varM 6) (nilA))))) (cmpT neS (callM m__law_said 4 (consA (varM 5) (consA (cM (.int 1)) (consA (varM 7) (consA (varM 6) (nilA)))))) (tupM (consA (cM (.str (cps "count"))) (consA (varM 7) (nilA)))))) (retM (cM (.bl false))) (nxM)) l_law_1_9 b e S
noncomputable def l_law_1_7 : SS := fun b e S => seqM (asgM (callM m__law_one 2 (consA (varM 2) (consA (frzM (lstA (consA (op1 negS (cM (.int 1))) (consA (cM (.int 2147483648)) (consA (cM .non) (consA (cM (.bl true)) (consA (cM (.str (cps "1"))) (consA (cM .edi) (nilA))))))))) (nilA)))) (gnM 7)) l_law_1_8 b e S
noncomputable def l_law_1_6 : SS := fun b e S => seqM (asgM (callM m__law_one 2 (consA (varM 2) (consA (frzM (lstA (consA (cM (.int 0)) (consA (op1 negS (cM (.int 1))) (consA (cM (.int 2147483648)) (consA (cM .non) (consA (cM (.bl true)) (consA (cM (.str (cps "1"))) (consA (frzM (lstA (nilA))) (nilA)))))))))) (nilA)))) (gnM 6)) l_law_1_7 b e S
noncomputable def l_law_1_5 : SS := fun b e S => seqM (forM (itemsM (op2 addS (compV (rng1 (cM (.int 3))) [11] (ctN 11) (yesT) (callM m__law_edit 2 (consA (varM 2) (consA (varM 4) (nilA))))) (callM m__law_idle 2 (consA (varM 2) (consA (varM 4) (nilA)))))) (gqM 3 (gsCons (gnM 8) (gsCons (gnM 9) (gsCons (gnM 10) (gsNil))))) (l_law_0)) l_law_1_6 b e S
noncomputable def l_law_1_4 : SS := fun b e S => seqM (ifM (cmpT eqS (callM m__law_draw 2 (consA (varM 2) (consA (cM (.int 2)) (nilA)))) (cM (.int 0))) (asgM (newM "Table" 2 true m_Table___init__ (consA (callM m__law_written 3 (consA (varM 2) (consA (varM 4) (consA (varM 3) (nilA))))) (consA (varM 3) (nilA)))) (gnM 5)) (nxM)) l_law_1_5 b e S
noncomputable def l_law_1_3 : SS := fun b e S => seqM (asgM (callM m_Table_of 2 (consA (varM 4) (consA (varM 3) (nilA)))) (gnM 5)) l_law_1_4 b e S
noncomputable def l_law_1_2 : SS := fun b e S => seqM (asgM (callM m__law_spans 2 (consA (varM 2) (consA (cM (.int 12)) (nilA)))) (gnM 4)) l_law_1_3 b e S
noncomputable def l_law_1_1 : SS := fun b e S => seqM (asgM (callM m__law_line 2 (consA (varM 2) (consA (op2 addS (cM (.int 1)) (callM m__law_draw 2 (consA (varM 2) (consA (cM (.int 40)) (nilA))))) (nilA)))) (gnM 3)) l_law_1_2 b e S
noncomputable def l_law_1 : SS := fun b e S => seqM (asgM (callM m__law_well 1 (consA (varM 1) (nilA))) (gnM 2)) l_law_1_1 b e S
noncomputable def b_law_0 : SS := fun b e S => (forM (itemsM (op2 addS (slcM (rawM 0) (none) (some (cM (.int 6)))) (frzM (lstA (consA (cM (.int 0)) (nilA)))))) (gnM 1) (l_law_1)) b e S
noncomputable def b_law_1 : SS := fun b e S => (retM (cM (.bl true))) b e S
noncomputable def m_law : SF := fnM 12 false (seqM b_law_0 (b_law_1))
end Mir.K33
end

/-! K33_D -/
section
set_option Elab.async false
set_option linter.all false
set_option maxRecDepth 100000
/-! K33_D: the readings of the defs (written by gen2.py). -/
namespace Mir.K33
open PySem L2 Mir Mir.Sh
def top (i : Nat) : Stmt := PySem.Challenge.pw_codespans_k33_source_edits.main.body.getD i (.Pass ⟨0, 0, 0, 0⟩)
abbrev s__law_well : Stmt := top 40
abbrev s__law_draw : Stmt := top 41
abbrev s__law_one : Stmt := top 42
abbrev s__law_line : Stmt := top 43
abbrev s__law_column : Stmt := top 44
abbrev s__law_span : Stmt := top 45
abbrev s__law_spans : Stmt := top 46
abbrev s_is_integer : Stmt := top 9
abbrev s_want_line : Stmt := top 31
abbrev s_Cursor___init__ : Stmt := inClass (top 16) 0
abbrev s_Entry___init__ : Stmt := inClass (top 19) 0
abbrev s_Cursor_next_byte : Stmt := inClass (top 16) 1
abbrev s_Cursor_number : Stmt := inClass (top 16) 2
abbrev s_Cursor_signed : Stmt := inClass (top 16) 3
abbrev s_maybe_column : Stmt := top 20
abbrev s_raw_span : Stmt := top 21
abbrev s_is_ordered : Stmt := top 10
abbrev s_read_entry : Stmt := top 22
abbrev s_read_entries : Stmt := top 23
abbrev s_is_byte_data : Stmt := top 30
abbrev s_Table___init__ : Stmt := inClass (top 33) 0
abbrev s_is_span : Stmt := top 11
abbrev s_want_spans : Stmt := top 32
abbrev s_runs_of : Stmt := top 25
abbrev s_groups_of : Stmt := top 14
abbrev s_folded : Stmt := top 15
abbrev s_body_of : Stmt := top 26
abbrev s_write_run : Stmt := top 27
abbrev s_write_spans : Stmt := top 28
abbrev s_Table_of : Stmt := inClass (top 33) 1
abbrev s__law_idle : Stmt := top 57
abbrev s__law_groups : Stmt := top 47
abbrev s__law_padded : Stmt := top 49
abbrev s__law_folded : Stmt := top 48
abbrev s__law_column_number : Stmt := top 50
abbrev s__law_loose_entry : Stmt := top 51
abbrev s__law_written : Stmt := top 52
abbrev s__law_edit : Stmt := top 56
abbrev s_Table_first_line : Stmt := inClass (top 33) 3
abbrev s_want_lines : Stmt := top 36
abbrev s_moved_span : Stmt := top 35
abbrev s_Table_spans : Stmt := inClass (top 33) 6
abbrev s_moved : Stmt := top 37
abbrev s_Table_data : Stmt := inClass (top 33) 2
abbrev s__law_said : Stmt := top 54
abbrev s__law_moved : Stmt := top 53
abbrev s__law_due : Stmt := top 55
abbrev s_law : Stmt := top 58
abbrev s_BadTable___init__ : Stmt := inClass (top 3) 0
abbrev s_BadLine___init__ : Stmt := inClass (top 4) 0
abbrev s_BadSpan___init__ : Stmt := inClass (top 5) 0
abbrev s_BadCount___init__ : Stmt := inClass (top 6) 0
structure Txt (K : PySem.W.Frag) (mg : Str → Option Value) : Prop where
  f__law_well : FunD K mg "_law_well" "_law_well" s__law_well
  f__law_draw : FunD K mg "_law_draw" "_law_draw" s__law_draw
  f__law_one : FunD K mg "_law_one" "_law_one" s__law_one
  f__law_line : FunD K mg "_law_line" "_law_line" s__law_line
  f__law_column : FunD K mg "_law_column" "_law_column" s__law_column
  f__law_span : FunD K mg "_law_span" "_law_span" s__law_span
  f__law_spans : FunD K mg "_law_spans" "_law_spans" s__law_spans
  f_is_integer : FunD K mg "is_integer" "is_integer" s_is_integer
  f_want_line : FunD K mg "want_line" "want_line" s_want_line
  d_Cursor_source : FldT K mg "source" "Cursor"
  d_Cursor_at : FldT K mg "at" "Cursor"
  f_Cursor___init__ : InitT K mg "Cursor" "Cursor.__init__" s_Cursor___init__
  d_Entry_at : FldT K mg "at" "Entry"
  d_Entry_steps : FldT K mg "steps" "Entry"
  d_Entry_form : FldT K mg "form" "Entry"
  d_Entry_span : FldT K mg "span" "Entry"
  d_Entry_end : FldT K mg "end" "Entry"
  f_Entry___init__ : InitT K mg "Entry" "Entry.__init__" s_Entry___init__
  f_Cursor_next_byte : MetT K mg "Cursor" "next_byte" "Cursor.next_byte" s_Cursor_next_byte
  f_Cursor_number : MetT K mg "Cursor" "number" "Cursor.number" s_Cursor_number
  f_Cursor_signed : MetT K mg "Cursor" "signed" "Cursor.signed" s_Cursor_signed
  f_maybe_column : FunD K mg "maybe_column" "maybe_column" s_maybe_column
  f_raw_span : FunD K mg "raw_span" "raw_span" s_raw_span
  f_is_ordered : FunD K mg "is_ordered" "is_ordered" s_is_ordered
  f_read_entry : FunD K mg "read_entry" "read_entry" s_read_entry
  f_read_entries : FunD K mg "read_entries" "read_entries" s_read_entries
  f_is_byte_data : FunD K mg "is_byte_data" "is_byte_data" s_is_byte_data
  d_Table_held_data : FldT K mg "held_data" "Table"
  d_Table_held_line : FldT K mg "held_line" "Table"
  d_Table_read : FldT K mg "read" "Table"
  d_Table_held_spans : FldT K mg "held_spans" "Table"
  f_Table___init__ : InitT K mg "Table" "Table.__init__" s_Table___init__
  f_is_span : FunD K mg "is_span" "is_span" s_is_span
  f_want_spans : FunD K mg "want_spans" "want_spans" s_want_spans
  f_runs_of : FunD K mg "runs_of" "runs_of" s_runs_of
  f_groups_of : FunD K mg "groups_of" "groups_of" s_groups_of
  f_folded : FunD K mg "folded" "folded" s_folded
  f_body_of : FunD K mg "body_of" "body_of" s_body_of
  f_write_run : FunD K mg "write_run" "write_run" s_write_run
  f_write_spans : FunD K mg "write_spans" "write_spans" s_write_spans
  f_Table_of : SmT K mg "Table" "of" "Table.of" s_Table_of
  f__law_idle : FunD K mg "_law_idle" "_law_idle" s__law_idle
  f__law_groups : FunD K mg "_law_groups" "_law_groups" s__law_groups
  f__law_padded : FunD K mg "_law_padded" "_law_padded" s__law_padded
  f__law_folded : FunD K mg "_law_folded" "_law_folded" s__law_folded
  f__law_column_number : FunD K mg "_law_column_number" "_law_column_number" s__law_column_number
  f__law_loose_entry : FunD K mg "_law_loose_entry" "_law_loose_entry" s__law_loose_entry
  f__law_written : FunD K mg "_law_written" "_law_written" s__law_written
  f__law_edit : FunD K mg "_law_edit" "_law_edit" s__law_edit
  f_Table_first_line : PrpT K mg "first_line" "Table" "Table.first_line" s_Table_first_line
  f_want_lines : FunD K mg "want_lines" "want_lines" s_want_lines
  f_moved_span : FunD K mg "moved_span" "moved_span" s_moved_span
  f_Table_spans : MetT K mg "Table" "spans" "Table.spans" s_Table_spans
  f_moved : FunD K mg "moved" "moved" s_moved
  f_Table_data : PrpT K mg "data" "Table" "Table.data" s_Table_data
  k_BadCount : ∃ C, mg "BadCount" = some (.ref C)
  m_BadCount_BadCount : ∀ C D, mg "BadCount" = some (.ref C) → mg "BadCount" = some (.ref D) → PySem.W.exmOne K (.ref C) (.ref D) = some true
  k_BadSpan : ∃ C, mg "BadSpan" = some (.ref C)
  m_BadSpan_BadCount : ∀ C D, mg "BadSpan" = some (.ref C) → mg "BadCount" = some (.ref D) → PySem.W.exmOne K (.ref C) (.ref D) = some false
  k_BadLine : ∃ C, mg "BadLine" = some (.ref C)
  m_BadLine_BadCount : ∀ C D, mg "BadLine" = some (.ref C) → mg "BadCount" = some (.ref D) → PySem.W.exmOne K (.ref C) (.ref D) = some false
  k_BadTable : ∃ C, mg "BadTable" = some (.ref C)
  m_BadTable_BadCount : ∀ C D, mg "BadTable" = some (.ref C) → mg "BadCount" = some (.ref D) → PySem.W.exmOne K (.ref C) (.ref D) = some false
  x_BadCount_many : XfT K mg "BadCount" "many"
  m_BadCount_BadLine : ∀ C D, mg "BadCount" = some (.ref C) → mg "BadLine" = some (.ref D) → PySem.W.exmOne K (.ref C) (.ref D) = some false
  m_BadSpan_BadLine : ∀ C D, mg "BadSpan" = some (.ref C) → mg "BadLine" = some (.ref D) → PySem.W.exmOne K (.ref C) (.ref D) = some false
  m_BadLine_BadLine : ∀ C D, mg "BadLine" = some (.ref C) → mg "BadLine" = some (.ref D) → PySem.W.exmOne K (.ref C) (.ref D) = some true
  m_BadTable_BadLine : ∀ C D, mg "BadTable" = some (.ref C) → mg "BadLine" = some (.ref D) → PySem.W.exmOne K (.ref C) (.ref D) = some false
  x_BadLine_line : XfT K mg "BadLine" "line"
  f__law_said : FunD K mg "_law_said" "_law_said" s__law_said
  f__law_moved : FunD K mg "_law_moved" "_law_moved" s__law_moved
  f__law_due : FunD K mg "_law_due" "_law_due" s__law_due
  f_law : FunD K mg "law" "law" s_law
  x_BadTable_at : XfT K mg "BadTable" "at"
  x_BadTable_why : XfT K mg "BadTable" "why"
  e_BadTable : ExT K mg "BadTable" "BadTable.__init__" s_BadTable___init__
  e_BadLine : ExT K mg "BadLine" "BadLine.__init__" s_BadLine___init__
  x_BadSpan_at : XfT K mg "BadSpan" "at"
  e_BadSpan : ExT K mg "BadSpan" "BadSpan.__init__" s_BadSpan___init__
  e_BadCount : ExT K mg "BadCount" "BadCount.__init__" s_BadCount___init__
  n_NoneType : mg "NoneType" = none
  n_all : mg "all" = none
  n_bool : mg "bool" = none
  n_bytes : mg "bytes" = none
  n_dict : mg "dict" = none
  n_enumerate : mg "enumerate" = none
  n_int : mg "int" = none
  n_isinstance : mg "isinstance" = none
  n_len : mg "len" = none
  n_list : mg "list" = none
  n_max : mg "max" = none
  n_min : mg "min" = none
  n_range : mg "range" = none
  n_str : mg "str" = none
  n_tuple : mg "tuple" = none
  c_MOST : ∃ t, mg "MOST" = some (.int 2147483647 t)
  c_MOST_GROUPS : ∃ t, mg "MOST_GROUPS" = some (.int 8 t)
section
variable {P : Program} {w : World} {K : PySem.W.Frag} {mg : Str → Option Value} {base : Heap}
theorem Txt.nt (T : Txt K mg) : mg (nm "NoneType") = none ∧ mg (nm "bool") = none ∧ mg (nm "int") = none ∧ mg (nm "str") = none ∧ mg (nm "bytes") = none ∧ mg (nm "list") = none ∧ mg (nm "tuple") = none ∧ mg (nm "dict") = none := ⟨T.n_NoneType, T.n_bool, T.n_int, T.n_str, T.n_bytes, T.n_list, T.n_tuple, T.n_dict⟩
theorem sc_BadTable___init__ : FnScope ["self", "at", "why"] ["self", "at", "why"] (defScope s_BadTable___init__) := ⟨rfl, rfl, rfl, by decide +kernel, rfl, by decide +kernel, by decide +kernel⟩
theorem eo_BadTable (T : Txt K mg) : ExcOk P w K mg base "BadTable" ["at", "why"] := T.e_BadTable.ok ["self", "at", "why"] (fun C f fd O hm F => ex2_ok F O sc_BadTable___init__ (T.x_BadTable_at.no hm) (T.x_BadTable_why.no hm) rfl ⟨by decide +kernel, by decide +kernel⟩ ⟨by decide +kernel, by decide +kernel⟩ ⟨by decide +kernel, by decide +kernel⟩ (fun _ => rfl) (fun _ => rfl)) fun _ _ _ _ _ _ us hl => match us, hl with | [_, _, _], _ => rfl
theorem sc_BadLine___init__ : FnScope ["self", "line"] ["self", "line"] (defScope s_BadLine___init__) := ⟨rfl, rfl, rfl, by decide +kernel, rfl, by decide +kernel, by decide +kernel⟩
theorem eo_BadLine (T : Txt K mg) : ExcOk P w K mg base "BadLine" ["line"] := T.e_BadLine.ok ["self", "line"] (fun C f fd O hm F => ex1_ok F O sc_BadLine___init__ (T.x_BadLine_line.no hm) rfl ⟨by decide +kernel, by decide +kernel⟩ ⟨by decide +kernel, by decide +kernel⟩ (fun _ => rfl)) fun _ _ _ _ _ _ us hl => match us, hl with | [_, _], _ => rfl
theorem sc_BadSpan___init__ : FnScope ["self", "at"] ["self", "at"] (defScope s_BadSpan___init__) := ⟨rfl, rfl, rfl, by decide +kernel, rfl, by decide +kernel, by decide +kernel⟩
theorem eo_BadSpan (T : Txt K mg) : ExcOk P w K mg base "BadSpan" ["at"] := T.e_BadSpan.ok ["self", "at"] (fun C f fd O hm F => ex1_ok F O sc_BadSpan___init__ (T.x_BadSpan_at.no hm) rfl ⟨by decide +kernel, by decide +kernel⟩ ⟨by decide +kernel, by decide +kernel⟩ (fun _ => rfl)) fun _ _ _ _ _ _ us hl => match us, hl with | [_, _], _ => rfl
theorem sc_BadCount___init__ : FnScope ["self", "many"] ["self", "many"] (defScope s_BadCount___init__) := ⟨rfl, rfl, rfl, by decide +kernel, rfl, by decide +kernel, by decide +kernel⟩
theorem eo_BadCount (T : Txt K mg) : ExcOk P w K mg base "BadCount" ["many"] := T.e_BadCount.ok ["self", "many"] (fun C f fd O hm F => ex1_ok F O sc_BadCount___init__ (T.x_BadCount_many.no hm) rfl ⟨by decide +kernel, by decide +kernel⟩ ⟨by decide +kernel, by decide +kernel⟩ (fun _ => rfl)) fun _ _ _ _ _ _ us hl => match us, hl with | [_, _], _ => rfl
theorem sc__law_well : FnScope ["_law_cell"] ["_law_cell"] (defScope s__law_well) := ⟨rfl, rfl, rfl, by decide +kernel, rfl, by decide +kernel, by decide +kernel⟩
theorem fo__law_well {f : Addr} {fd : FuncData} (F : Fun K "_law_well" "_law_well" s__law_well f fd) (T : Txt K mg) : FnOk P w K mg base (L2.CX P w) 1 f fd ["_law_cell"] (spI K mg 1 id m__law_well) :=
  fn_ok (k := 0) F sc__law_well rfl rfl fun cdv A outer s H E hr => (rss_one (rs_ret (re_own false (rl_lst (ra_cons re_var (ra_cons re_int ra_nil))))))
theorem do__law_well (T : Txt K mg) : DefOk P w K mg base "_law_well" 1 1 m__law_well := T.f__law_well.ok ["_law_cell"] (fun f fd F => fo__law_well F T) fun _ _ _ _ _ _ us hl => match us, hl with | [_], _ => rfl
theorem sc__law_draw : FnScope ["_law_well_here", "_law_many", "_law_number", "_law_more", "_law_digit"] ["_law_well_here", "_law_many"] (defScope s__law_draw) := ⟨rfl, rfl, rfl, by decide +kernel, rfl, by decide +kernel, by decide +kernel⟩
theorem fo__law_draw {f : Addr} {fd : FuncData} (F : Fun K "_law_draw" "_law_draw" s__law_draw f fd) (T : Txt K mg) : FnOk P w K mg base (L2.CX P w) 1 f fd ["_law_well_here", "_law_many"] (spI K mg 2 id m__law_draw) :=
  fn_ok (k := 0) F sc__law_draw rfl rfl fun cdv A outer s H E hr => (rss_cons (rs_if (rt_ge (re_idx re_raw re_int) (re_pow re_int re_int)) (rss_cons (rs_asg (re_mod (re_toint (by rfl) T.n_int (re_idx re_raw re_int)) re_raw) (rg_name sc__law_draw.nd)) (rss_cons (rs_asg (re_fdiv (re_idx re_raw re_int) re_raw) (rg_sub re_raw re_int)) (rss_one (rs_ret re_var)))) rss_nil) (rss_cons (rs_asg (re_add (re_idx re_raw re_int) re_int) (rg_sub re_raw re_int)) (rss_cons (rs_asg (re_mod (re_mul (re_add (re_add (re_mod (re_toint (by rfl) T.n_int (re_idx re_raw re_int)) re_int) (re_mul re_int (re_idx re_raw re_int))) re_int) re_int) re_int) (rg_name sc__law_draw.nd)) (rss_cons (rs_asg (re_mod (re_fdiv (re_idx re_raw re_int) re_int) re_int) (rg_name sc__law_draw.nd)) (rss_cons (rs_asg (re_mod (re_toint (by rfl) T.n_int (re_mul re_raw (re_add (re_add (re_fdiv re_raw re_int) re_int) re_raw))) re_int) (rg_name sc__law_draw.nd)) (rss_one (rs_ret (re_mod (re_toint (by rfl) T.n_int (re_fdiv (re_mod (re_toint (by rfl) T.n_int (re_mul re_raw (re_add (re_fdiv re_raw re_int) re_int))) re_int) re_int)) re_raw))))))))
theorem do__law_draw (T : Txt K mg) : DefOk P w K mg base "_law_draw" 2 1 m__law_draw := T.f__law_draw.ok ["_law_well_here", "_law_many"] (fun f fd F => fo__law_draw F T) fun _ _ _ _ _ _ us hl => match us, hl with | [_, _], _ => rfl
theorem sc__law_one : FnScope ["_law_well_here", "_law_some"] ["_law_well_here", "_law_some"] (defScope s__law_one) := ⟨rfl, rfl, rfl, by decide +kernel, rfl, by decide +kernel, by decide +kernel⟩
theorem fo__law_one {f : Addr} {fd : FuncData} (F : Fun K "_law_one" "_law_one" s__law_one f fd) (T : Txt K mg) : FnOk P w K mg base (L2.CX P w) 2 f fd ["_law_well_here", "_law_some"] (spI K mg 2 id m__law_one) :=
  fn_ok (k := 1) F sc__law_one rfl rfl fun cdv A outer s H E hr => (rss_one (rs_ret (re_idx re_raw (re_callD (do__law_draw T) (hr.mono (by decide)) (by rfl) (ra_cons re_var (ra_cons (re_len (by rfl) T.n_len re_raw) ra_nil))))))
theorem do__law_one (T : Txt K mg) : DefOk P w K mg base "_law_one" 2 2 m__law_one := T.f__law_one.ok ["_law_well_here", "_law_some"] (fun f fd F => fo__law_one F T) fun _ _ _ _ _ _ us hl => match us, hl with | [_, _], _ => rfl
theorem sc__law_line : FnScope ["_law_well_here", "_law_near", "_law_way"] ["_law_well_here", "_law_near"] (defScope s__law_line) := ⟨rfl, rfl, rfl, by decide +kernel, rfl, by decide +kernel, by decide +kernel⟩
theorem fo__law_line {f : Addr} {fd : FuncData} (F : Fun K "_law_line" "_law_line" s__law_line f fd) (T : Txt K mg) : FnOk P w K mg base (L2.CX P w) 3 f fd ["_law_well_here", "_law_near"] (spI K mg 2 id m__law_line) :=
  fn_ok (k := 2) F sc__law_line rfl rfl fun cdv A outer s H E hr => (rss_cons (rs_asg (re_callD (do__law_draw T) (hr.mono (by decide)) (by rfl) (ra_cons re_var (ra_cons re_int ra_nil))) (rg_name sc__law_line.nd)) (rss_cons (rs_if (rt_lt re_raw re_int) (rss_one (rs_ret (re_min2 (by rfl) T.n_min re_int (re_max2 (by rfl) T.n_max re_int (re_sub (re_sub (re_add re_raw re_raw) re_int) (re_mul re_int (re_callD (do__law_draw T) (hr.mono (by decide)) (by rfl) (ra_cons re_var (ra_cons re_int ra_nil))))))))) rss_nil) (rss_one (rs_ret (re_callD (do__law_one T) (hr.mono (by decide)) (by rfl) (ra_cons re_var (ra_cons (re_frz (rl_lst (ra_cons re_int (ra_cons re_int (ra_cons (re_add re_int (re_callD (do__law_draw T) (hr.mono (by decide)) (by rfl) (ra_cons re_var (ra_cons re_int ra_nil)))) (ra_cons (re_add re_int (re_callD (do__law_draw T) (hr.mono (by decide)) (by rfl) (ra_cons re_var (ra_cons re_int ra_nil)))) ra_nil)))))) ra_nil)))))))
theorem do__law_line (T : Txt K mg) : DefOk P w K mg base "_law_line" 2 3 m__law_line := T.f__law_line.ok ["_law_well_here", "_law_near"] (fun f fd F => fo__law_line F T) fun _ _ _ _ _ _ us hl => match us, hl with | [_, _], _ => rfl
theorem sc__law_column : FnScope ["_law_well_here", "_law_some"] ["_law_well_here"] (defScope s__law_column) := ⟨rfl, rfl, rfl, by decide +kernel, rfl, by decide +kernel, by decide +kernel⟩
theorem fo__law_column {f : Addr} {fd : FuncData} (F : Fun K "_law_column" "_law_column" s__law_column f fd) (T : Txt K mg) : FnOk P w K mg base (L2.CX P w) 3 f fd ["_law_well_here"] (spI K mg 1 id m__law_column) :=
  fn_ok (k := 2) F sc__law_column rfl rfl fun cdv A outer s H E hr => (rss_cons (rs_asg (re_frz (rl_lst (ra_cons (re_callD (do__law_draw T) (hr.mono (by decide)) (by rfl) (ra_cons re_var (ra_cons re_int ra_nil))) (ra_cons (re_callD (do__law_draw T) (hr.mono (by decide)) (by rfl) (ra_cons re_var (ra_cons re_int ra_nil))) (ra_cons (re_callD (do__law_draw T) (hr.mono (by decide)) (by rfl) (ra_cons re_var (ra_cons re_int ra_nil))) ra_nil))))) (rg_name sc__law_column.nd)) (rss_one (rs_ret (re_callD (do__law_one T) (hr.mono (by decide)) (by rfl) (ra_cons re_var (ra_cons (re_add re_raw (re_frz (rl_lst (ra_cons (re_sub re_int (re_callD (do__law_draw T) (hr.mono (by decide)) (by rfl) (ra_cons re_var (ra_cons re_int ra_nil)))) ra_nil)))) ra_nil))))))
theorem do__law_column (T : Txt K mg) : DefOk P w K mg base "_law_column" 1 3 m__law_column := T.f__law_column.ok ["_law_well_here"] (fun f fd F => fo__law_column F T) fun _ _ _ _ _ _ us hl => match us, hl with | [_], _ => rfl
theorem sc__law_span : FnScope ["_law_well_here", "_law_near", "_law_way", "_law_line_here", "_law_column_here", "_law_wide", "_law_end_line"] ["_law_well_here", "_law_near"] (defScope s__law_span) := ⟨rfl, rfl, rfl, by decide +kernel, rfl, by decide +kernel, by decide +kernel⟩
theorem fo__law_span {f : Addr} {fd : FuncData} (F : Fun K "_law_span" "_law_span" s__law_span f fd) (T : Txt K mg) : FnOk P w K mg base (L2.CX P w) 4 f fd ["_law_well_here", "_law_near"] (spI K mg 2 id m__law_span) :=
  fn_ok (k := 3) F sc__law_span rfl rfl fun cdv A outer s H E hr => (rss_cons (rs_asg (re_callD (do__law_draw T) (hr.mono (by decide)) (by rfl) (ra_cons re_var (ra_cons re_int ra_nil))) (rg_name sc__law_span.nd)) (rss_cons (rs_if (rt_eq re_raw re_int) (rss_one (rs_ret re_non)) rss_nil) (rss_cons (rs_asg (re_callD (do__law_line T) (hr.mono (by decide)) (by rfl) (ra_cons re_var (ra_cons re_var ra_nil))) (rg_name sc__law_span.nd)) (rss_cons (rs_if (rt_eq re_raw re_int) (rss_one (rs_ret (re_tup (ra_cons re_var (ra_cons re_var (ra_cons re_non (ra_cons re_non ra_nil))))))) rss_nil) (rss_cons (rs_asg (re_callD (do__law_column T) (hr.mono (by decide)) (by rfl) (ra_cons re_var ra_nil)) (rg_name sc__law_span.nd)) (rss_cons (rs_asg (re_callD (do__law_draw T) (hr.mono (by decide)) (by rfl) (ra_cons re_var (ra_cons (re_callD (do__law_one T) (hr.mono (by decide)) (by rfl) (ra_cons re_var (ra_cons (re_frz (rl_lst (ra_cons re_int (ra_cons re_int (ra_cons re_int (ra_cons (re_pow re_int re_int) ra_nil)))))) ra_nil))) ra_nil))) (rg_name sc__law_span.nd)) (rss_cons (rs_asg re_var (rg_name sc__law_span.nd)) (rss_cons (rs_if (rt_gt re_raw re_int) (rss_one (rs_asg (re_min2 (by rfl) T.n_min re_int (re_add re_raw (re_callD (do__law_one T) (hr.mono (by decide)) (by rfl) (ra_cons re_var (ra_cons (re_frz (rl_lst (ra_cons re_int (ra_cons (re_callD (do__law_draw T) (hr.mono (by decide)) (by rfl) (ra_cons re_var (ra_cons re_int ra_nil))) (ra_cons (re_callD (do__law_draw T) (hr.mono (by decide)) (by rfl) (ra_cons re_var (ra_cons (re_pow re_int re_int) ra_nil))) ra_nil))))) ra_nil))))) (rg_name sc__law_span.nd))) rss_nil) (rss_cons (rs_if (rt_gt re_raw re_raw) (rss_one (rs_ret (re_tup (ra_cons re_var (ra_cons re_var (ra_cons re_var (ra_cons (re_callD (do__law_column T) (hr.mono (by decide)) (by rfl) (ra_cons re_var ra_nil)) ra_nil))))))) rss_nil) (rss_one (rs_ret (re_tup (ra_cons re_var (ra_cons re_var (ra_cons re_var (ra_cons (re_min2 (by rfl) T.n_min re_int (re_add re_raw re_raw)) ra_nil))))))))))))))))
theorem do__law_span (T : Txt K mg) : DefOk P w K mg base "_law_span" 2 4 m__law_span := T.f__law_span.ok ["_law_well_here", "_law_near"] (fun f fd F => fo__law_span F T) fun _ _ _ _ _ _ us hl => match us, hl with | [_, _], _ => rfl
theorem sc__law_spans : FnScope ["_law_well_here", "_law_most", "_law_found", "_law_near", "_law_k", "_law_span_here"] ["_law_well_here", "_law_most"] (defScope s__law_spans) := ⟨rfl, rfl, rfl, by decide +kernel, rfl, by decide +kernel, by decide +kernel⟩
theorem fo__law_spans {f : Addr} {fd : FuncData} (F : Fun K "_law_spans" "_law_spans" s__law_spans f fd) (T : Txt K mg) : FnOk P w K mg base (L2.CX P w) 5 f fd ["_law_well_here", "_law_most"] (spI K mg 2 id m__law_spans) :=
  fn_ok (k := 4) F sc__law_spans rfl rfl fun cdv A outer s H E hr => (rss_cons (rs_asg (re_frz (rl_lst ra_nil)) (rg_name sc__law_spans.nd)) (rss_cons (rs_asg (re_add re_int (re_callD (do__law_draw T) (hr.mono (by decide)) (by rfl) (ra_cons re_var (ra_cons re_int ra_nil)))) (rg_name sc__law_spans.nd)) (rss_cons (rs_for (ri_range1 (by rfl) T.n_range (re_callD (do__law_draw T) (hr.mono (by decide)) (by rfl) (ra_cons re_var (ra_cons re_var ra_nil)))) (rg_name sc__law_spans.nd) (rss_cons (rs_asg (re_callD (do__law_span T) (hr.mono (by decide)) (by rfl) (ra_cons re_var (ra_cons re_var ra_nil))) (rg_name sc__law_spans.nd)) (rss_cons (rs_if (rt_isnot re_raw re_non) (rss_one (rs_asg (re_idx re_raw re_int) (rg_name sc__law_spans.nd))) rss_nil) (rss_one (rs_asg (re_add re_raw (re_mul (re_frz (rl_lst (ra_cons re_var ra_nil))) (re_callD (do__law_one T) (hr.mono (by decide)) (by rfl) (ra_cons re_var (ra_cons (re_frz (rl_lst (ra_cons re_int (ra_cons re_int (ra_cons re_int (ra_cons re_int (ra_cons re_int (ra_cons re_int (ra_cons re_int (ra_cons re_int (ra_cons (re_add re_int (re_callD (do__law_draw T) (hr.mono (by decide)) (by rfl) (ra_cons re_var (ra_cons re_int ra_nil)))) ra_nil))))))))))) ra_nil))))) (rg_name sc__law_spans.nd)))))) (rss_one (rs_ret re_var)))))
theorem do__law_spans (T : Txt K mg) : DefOk P w K mg base "_law_spans" 2 5 m__law_spans := T.f__law_spans.ok ["_law_well_here", "_law_most"] (fun f fd F => fo__law_spans F T) fun _ _ _ _ _ _ us hl => match us, hl with | [_, _], _ => rfl
theorem sc_is_integer : FnScope ["thing", "low", "high"] ["thing", "low", "high"] (defScope s_is_integer) := ⟨rfl, rfl, rfl, by decide +kernel, rfl, by decide +kernel, by decide +kernel⟩
theorem fo_is_integer {f : Addr} {fd : FuncData} (F : Fun K "is_integer" "is_integer" s_is_integer f fd) (T : Txt K mg) : FnOk P w K mg base (L2.CX P w) 1 f fd ["thing", "low", "high"] (spI K mg 3 id m_is_integer) :=
  fn_ok (k := 0) F sc_is_integer rfl rfl fun cdv A outer s H E hr => (rss_cons (rs_if (rt_w (rw_or (rt_not (rt_tst (re_isi_int (by rfl) T.n_isinstance T.nt (by rfl) T.n_int re_raw))) (rw_or1 (rt_tst (re_isi_bool (by rfl) T.n_isinstance T.nt (by rfl) T.n_bool re_raw))))) (rss_one (rs_ret re_bl)) rss_nil) (rss_one (rs_ret (re_andV (re_orV (re_is re_raw re_non) (re_one (re_ge re_raw re_raw))) (re_one (re_orV (re_is re_raw re_non) (re_one (re_le re_raw re_raw))))))))
theorem do_is_integer (T : Txt K mg) : DefOk P w K mg base "is_integer" 3 1 m_is_integer := T.f_is_integer.ok ["thing", "low", "high"] (fun f fd F => fo_is_integer F T) fun _ _ _ _ _ _ us hl => match us, hl with | [_, _, _], _ => rfl
theorem sc_want_line : FnScope ["line"] ["line"] (defScope s_want_line) := ⟨rfl, rfl, rfl, by decide +kernel, rfl, by decide +kernel, by decide +kernel⟩
theorem fo_want_line {f : Addr} {fd : FuncData} (F : Fun K "want_line" "want_line" s_want_line f fd) (T : Txt K mg) : FnOk P w K mg base (L2.CX P w) 3 f fd ["line"] (spI K mg 1 id m_want_line) :=
  fn_ok (k := 2) F sc_want_line rfl rfl fun cdv A outer s H E hr => (rss_one (rs_if (rt_not (rt_tst (re_callD (do_is_integer T) (hr.mono (by decide)) (by rfl) (ra_cons re_var (ra_cons re_int (ra_cons (re_globI (by rfl) T.c_MOST.choose_spec) ra_nil)))))) (rss_one (rs_raise (eo_BadLine T) (hr.mono (by decide)) (by rfl) (ra_cons re_var ra_nil))) rss_nil))
theorem do_want_line (T : Txt K mg) : DefOk P w K mg base "want_line" 1 3 m_want_line := T.f_want_line.ok ["line"] (fun f fd F => fo_want_line F T) fun _ _ _ _ _ _ us hl => match us, hl with | [_], _ => rfl
theorem sc_Cursor___init__ : FnScope ["self", "source", "at"] ["self", "source", "at"] (defScope s_Cursor___init__) := ⟨rfl, rfl, rfl, by decide +kernel, rfl, by decide +kernel, by decide +kernel⟩
theorem fo_Cursor___init__ {f : Addr} {fd : FuncData} (F : Fun K "__init__" "Cursor.__init__" s_Cursor___init__ f fd) (T : Txt K mg) : FnOk P w K mg base (L2.CX P w) 1 f fd ["self", "source", "at"] (spI K mg 3 List.dropLast m_Cursor___init__) :=
  ini_ok (k := 0) F sc_Cursor___init__ rfl rfl fun cdv A outer s H E hr => (rss_cons (rs_setF (.cons T.d_Cursor_source .nil) re_raw re_var) (rss_one (rs_setF (.cons T.d_Cursor_at .nil) re_raw re_var)))
theorem io_Cursor (T : Txt K mg) : InitOk P w K mg base "Cursor" 2 1 m_Cursor___init__ := T.f_Cursor___init__.ok ["self", "source", "at"] (fun f fd F => fo_Cursor___init__ F T) fun _ _ _ _ _ _ us hl => match us, hl with | [_, _, _], _ => rfl
theorem sc_Entry___init__ : FnScope ["self", "at", "steps", "form", "span", "end"] ["self", "at", "steps", "form", "span", "end"] (defScope s_Entry___init__) := ⟨rfl, rfl, rfl, by decide +kernel, rfl, by decide +kernel, by decide +kernel⟩
theorem fo_Entry___init__ {f : Addr} {fd : FuncData} (F : Fun K "__init__" "Entry.__init__" s_Entry___init__ f fd) (T : Txt K mg) : FnOk P w K mg base (L2.CX P w) 1 f fd ["self", "at", "steps", "form", "span", "end"] (spI K mg 6 List.dropLast m_Entry___init__) :=
  ini_ok (k := 0) F sc_Entry___init__ rfl rfl fun cdv A outer s H E hr => (rss_cons (rs_setF (.cons T.d_Entry_at .nil) re_raw re_var) (rss_cons (rs_setF (.cons T.d_Entry_steps .nil) re_raw re_var) (rss_cons (rs_setF (.cons T.d_Entry_form .nil) re_raw re_var) (rss_cons (rs_setF (.cons T.d_Entry_span .nil) re_raw re_var) (rss_one (rs_setF (.cons T.d_Entry_end .nil) re_raw re_var))))))
theorem io_Entry (T : Txt K mg) : InitOk P w K mg base "Entry" 5 1 m_Entry___init__ := T.f_Entry___init__.ok ["self", "at", "steps", "form", "span", "end"] (fun f fd F => fo_Entry___init__ F T) fun _ _ _ _ _ _ us hl => match us, hl with | [_, _, _, _, _, _], _ => rfl
theorem sc_Cursor_next_byte : FnScope ["self"] ["self"] (defScope s_Cursor_next_byte) := ⟨rfl, rfl, rfl, by decide +kernel, rfl, by decide +kernel, by decide +kernel⟩
theorem fo_Cursor_next_byte {f : Addr} {fd : FuncData} (F : Fun K "next_byte" "Cursor.next_byte" s_Cursor_next_byte f fd) (T : Txt K mg) : FnOk P w K mg base (L2.CX P w) 3 f fd ["self"] (spI K mg 1 id m_Cursor_next_byte) :=
  fn_ok (k := 2) F sc_Cursor_next_byte rfl rfl fun cdv A outer s H E hr => (rss_cons (rs_if (rt_ge (re_attr (.fld T.d_Cursor_at .nil) re_raw) (re_len (by rfl) T.n_len (re_attr (.fld T.d_Cursor_source .nil) re_raw))) (rss_one (rs_raise (eo_BadTable T) (hr.mono (by decide)) (by rfl) (ra_cons (re_len (by rfl) T.n_len (re_attr (.fld T.d_Cursor_source .nil) re_raw)) (ra_cons (re_str (s := "torn")) ra_nil)))) rss_nil) (rss_cons (rs_if (rt_ge (re_idx (re_attr (.fld T.d_Cursor_source .nil) re_raw) (re_attr (.fld T.d_Cursor_at .nil) re_raw)) re_int) (rss_one (rs_raise (eo_BadTable T) (hr.mono (by decide)) (by rfl) (ra_cons (re_attr (.fld T.d_Cursor_at .nil) re_raw) (ra_cons (re_str (s := "inside")) ra_nil)))) rss_nil) (rss_cons (rs_augF (.cons T.d_Cursor_at .nil) in_add ip_addI re_raw re_int) (rss_one (rs_ret (re_idx (re_attr (.fld T.d_Cursor_source .nil) re_raw) (re_sub (re_attr (.fld T.d_Cursor_at .nil) re_raw) re_int)))))))
theorem mo_Cursor_next_byte (T : Txt K mg) : MetOk P w K mg base "Cursor" "next_byte" 0 3 m_Cursor_next_byte := T.f_Cursor_next_byte.ok ["self"] (fun f fd F => fo_Cursor_next_byte F T) fun _ _ _ _ _ _ us hl => match us, hl with | [_], _ => rfl
theorem sc_Cursor_number : FnScope ["self", "found", "weight", "group", "byte"] ["self"] (defScope s_Cursor_number) := ⟨rfl, rfl, rfl, by decide +kernel, rfl, by decide +kernel, by decide +kernel⟩
theorem fo_Cursor_number {f : Addr} {fd : FuncData} (F : Fun K "number" "Cursor.number" s_Cursor_number f fd) (T : Txt K mg) : FnOk P w K mg base (L2.CX P w) 4 f fd ["self"] (spI K mg 1 id m_Cursor_number) :=
  fn_ok (k := 3) F sc_Cursor_number rfl rfl fun cdv A outer s H E hr => (rss_cons (rs_asg re_int (rg_name sc_Cursor_number.nd)) (rss_cons (rs_asg re_int (rg_name sc_Cursor_number.nd)) (rss_cons (rs_for (ri_range1 (by rfl) T.n_range (re_globI (by rfl) T.c_MOST_GROUPS.choose_spec)) (rg_name sc_Cursor_number.nd) (rss_cons (rs_ifWal sc_Cursor_number.nd ch_lt (re_meth0 (.cons ((mo_Cursor_next_byte T).at_ (hr.mono (by decide))) .nil) re_raw) re_int (rss_one (rs_ret (re_add re_raw (re_mul re_raw re_raw)))) rss_nil (nomark _)) (rss_cons (rs_augX sc_Cursor_number.nd in_add ip_addI (re_mul (re_band re_raw re_int) re_raw)) (rss_one (rs_augX sc_Cursor_number.nd in_mul ip_mulI re_int))))) (rss_one (rs_raise (eo_BadTable T) (hr.mono (by decide)) (by rfl) (ra_cons (re_sub (re_attr (.fld T.d_Cursor_at .nil) re_raw) re_int) (ra_cons (re_str (s := "number")) ra_nil)))))))
theorem mo_Cursor_number (T : Txt K mg) : MetOk P w K mg base "Cursor" "number" 0 4 m_Cursor_number := T.f_Cursor_number.ok ["self"] (fun f fd F => fo_Cursor_number F T) fun _ _ _ _ _ _ us hl => match us, hl with | [_], _ => rfl
theorem sc_Cursor_signed : FnScope ["self", "found"] ["self"] (defScope s_Cursor_signed) := ⟨rfl, rfl, rfl, by decide +kernel, rfl, by decide +kernel, by decide +kernel⟩
theorem fo_Cursor_signed {f : Addr} {fd : FuncData} (F : Fun K "signed" "Cursor.signed" s_Cursor_signed f fd) (T : Txt K mg) : FnOk P w K mg base (L2.CX P w) 5 f fd ["self"] (spI K mg 1 id m_Cursor_signed) :=
  fn_ok (k := 4) F sc_Cursor_signed rfl rfl fun cdv A outer s H E hr => (rss_cons (rs_asg (re_meth0 (.cons ((mo_Cursor_number T).at_ (hr.mono (by decide))) .nil) re_raw) (rg_name sc_Cursor_signed.nd)) (rss_one (rs_ret (re_ifE (rt_eq (re_band re_raw re_int) re_int) (re_shr re_raw re_int) (re_neg (re_shr re_raw re_int))))))
theorem mo_Cursor_signed (T : Txt K mg) : MetOk P w K mg base "Cursor" "signed" 0 5 m_Cursor_signed := T.f_Cursor_signed.ok ["self"] (fun f fd F => fo_Cursor_signed F T) fun _ _ _ _ _ _ us hl => match us, hl with | [_], _ => rfl
theorem sc_maybe_column : FnScope ["number"] ["number"] (defScope s_maybe_column) := ⟨rfl, rfl, rfl, by decide +kernel, rfl, by decide +kernel, by decide +kernel⟩
theorem fo_maybe_column {f : Addr} {fd : FuncData} (F : Fun K "maybe_column" "maybe_column" s_maybe_column f fd) (T : Txt K mg) : FnOk P w K mg base (L2.CX P w) 1 f fd ["number"] (spI K mg 1 id m_maybe_column) :=
  fn_ok (k := 0) F sc_maybe_column rfl rfl fun cdv A outer s H E hr => (rss_one (rs_ret (re_ifE (rt_eq re_raw re_int) re_non (re_sub re_raw re_int))))
theorem do_maybe_column (T : Txt K mg) : DefOk P w K mg base "maybe_column" 1 1 m_maybe_column := T.f_maybe_column.ok ["number"] (fun f fd F => fo_maybe_column F T) fun _ _ _ _ _ _ us hl => match us, hl with | [_], _ => rfl
theorem sc_raw_span : FnScope ["cursor", "form", "line", "end_line", "column", "byte"] ["cursor", "form", "line"] (defScope s_raw_span) := ⟨rfl, rfl, rfl, by decide +kernel, rfl, by decide +kernel, by decide +kernel⟩
theorem fo_raw_span {f : Addr} {fd : FuncData} (F : Fun K "raw_span" "raw_span" s_raw_span f fd) (T : Txt K mg) : FnOk P w K mg base (L2.CX P w) 6 f fd ["cursor", "form", "line"] (spI K mg 3 id m_raw_span) :=
  fn_ok (k := 5) F sc_raw_span rfl rfl fun cdv A outer s H E hr => (rss_cons (rs_if (rt_lt re_raw re_int) (rss_cons (rs_asg (re_meth0 (.cons ((mo_Cursor_next_byte T).at_ (hr.mono (by decide))) .nil) re_raw) (rg_name sc_raw_span.nd)) (rss_cons (rs_asg (re_add (re_mul re_int re_raw) (re_shr re_raw re_int)) (rg_name sc_raw_span.nd)) (rss_one (rs_ret (re_tup (ra_cons re_var (ra_cons re_var (ra_cons re_var (ra_cons (re_add re_raw (re_band re_raw re_int)) ra_nil))))))))) rss_nil) (rss_cons (rs_if (rt_lt re_raw re_int) (rss_cons (rs_augX sc_raw_span.nd in_add ip_addI (re_sub re_raw re_int)) (rss_cons (rs_asg (re_meth0 (.cons ((mo_Cursor_next_byte T).at_ (hr.mono (by decide))) .nil) re_raw) (rg_name sc_raw_span.nd)) (rss_one (rs_ret (re_tup (ra_cons re_var (ra_cons re_var (ra_cons re_var (ra_cons (re_meth0 (.cons ((mo_Cursor_next_byte T).at_ (hr.mono (by decide))) .nil) re_raw) ra_nil))))))))) rss_nil) (rss_cons (rs_augX sc_raw_span.nd in_add ip_addI (re_meth0 (.cons ((mo_Cursor_signed T).at_ (hr.mono (by decide))) .nil) re_raw)) (rss_cons (rs_if (rt_eq re_raw re_int) (rss_one (rs_ret (re_tup (ra_cons re_var (ra_cons re_var (ra_cons re_non (ra_cons re_non ra_nil))))))) rss_nil) (rss_cons (rs_asg (re_add re_raw (re_meth0 (.cons ((mo_Cursor_number T).at_ (hr.mono (by decide))) .nil) re_raw)) (rg_name sc_raw_span.nd)) (rss_cons (rs_asg (re_callD (do_maybe_column T) (hr.mono (by decide)) (by rfl) (ra_cons (re_meth0 (.cons ((mo_Cursor_number T).at_ (hr.mono (by decide))) .nil) re_raw) ra_nil)) (rg_name sc_raw_span.nd)) (rss_one (rs_ret (re_tup (ra_cons re_var (ra_cons re_var (ra_cons re_var (ra_cons (re_callD (do_maybe_column T) (hr.mono (by decide)) (by rfl) (ra_cons (re_meth0 (.cons ((mo_Cursor_number T).at_ (hr.mono (by decide))) .nil) re_raw) ra_nil)) ra_nil)))))))))))))
theorem do_raw_span (T : Txt K mg) : DefOk P w K mg base "raw_span" 3 6 m_raw_span := T.f_raw_span.ok ["cursor", "form", "line"] (fun f fd F => fo_raw_span F T) fun _ _ _ _ _ _ us hl => match us, hl with | [_, _, _], _ => rfl
theorem sc_is_ordered : FnScope ["line", "end_line", "column", "end_column"] ["line", "end_line", "column", "end_column"] (defScope s_is_ordered) := ⟨rfl, rfl, rfl, by decide +kernel, rfl, by decide +kernel, by decide +kernel⟩
theorem fo_is_ordered {f : Addr} {fd : FuncData} (F : Fun K "is_ordered" "is_ordered" s_is_ordered f fd) (T : Txt K mg) : FnOk P w K mg base (L2.CX P w) 2 f fd ["line", "end_line", "column", "end_column"] (spI K mg 4 id m_is_ordered) :=
  fn_ok (k := 1) F sc_is_ordered rfl rfl fun cdv A outer s H E hr => (rss_cons (rs_if (rt_w (rw_and (rt_is re_raw re_non) (rw_and1 (rt_is re_raw re_non)))) (rss_one (rs_ret (re_eq re_raw re_raw))) rss_nil) (rss_cons (rs_if (rt_w (rw_or (rt_not (rt_tst (re_callD (do_is_integer T) (hr.mono (by decide)) (by rfl) (ra_cons re_var (ra_cons re_int (ra_cons (re_globI (by rfl) T.c_MOST.choose_spec) ra_nil)))))) (rw_or1 (rt_not (rt_tst (re_callD (do_is_integer T) (hr.mono (by decide)) (by rfl) (ra_cons re_var (ra_cons re_int (ra_cons (re_globI (by rfl) T.c_MOST.choose_spec) ra_nil))))))))) (rss_one (rs_ret re_bl)) rss_nil) (rss_one (rs_ret (re_orV (re_lt re_raw re_raw) (re_one (re_le re_raw re_raw)))))))
theorem do_is_ordered (T : Txt K mg) : DefOk P w K mg base "is_ordered" 4 2 m_is_ordered := T.f_is_ordered.ok ["line", "end_line", "column", "end_column"] (fun f fd F => fo_is_ordered F T) fun _ _ _ _ _ _ us hl => match us, hl with | [_, _, _, _], _ => rfl
theorem sc_read_entry : FnScope ["data", "at", "line", "form", "steps", "cursor", "span"] ["data", "at", "line"] (defScope s_read_entry) := ⟨rfl, rfl, rfl, by decide +kernel, rfl, by decide +kernel, by decide +kernel⟩
theorem fo_read_entry {f : Addr} {fd : FuncData} (F : Fun K "read_entry" "read_entry" s_read_entry f fd) (T : Txt K mg) : FnOk P w K mg base (L2.CX P w) 7 f fd ["data", "at", "line"] (spI K mg 3 id m_read_entry) :=
  fn_ok (k := 6) F sc_read_entry rfl rfl fun cdv A outer s H E hr => (rss_cons (rs_if (rt_lt (re_idx re_raw re_raw) re_int) (rss_one (rs_raise (eo_BadTable T) (hr.mono (by decide)) (by rfl) (ra_cons re_var (ra_cons (re_str (s := "start")) ra_nil)))) rss_nil) (rss_cons (rs_asg (re_band (re_shr (re_idx re_raw re_raw) re_int) re_int) (rg_name sc_read_entry.nd)) (rss_cons (rs_asg (re_add (re_band (re_idx re_raw re_raw) re_int) re_int) (rg_name sc_read_entry.nd)) (rss_cons (rs_asg (re_newD (io_Cursor T) (hr.mono (by decide)) (by rfl) (ra_cons re_var (ra_cons (re_add re_raw re_int) ra_nil))) (rg_name sc_read_entry.nd)) (rss_cons (rs_if (rt_eq re_raw re_int) (rss_one (rs_ret (re_newD (io_Entry T) (hr.mono (by decide)) (by rfl) (ra_cons re_var (ra_cons re_var (ra_cons re_var (ra_cons re_non (ra_cons (re_attr (.fld T.d_Cursor_at .nil) re_raw) ra_nil)))))))) rss_nil) (rss_cons (rs_asg (re_callD (do_raw_span T) (hr.mono (by decide)) (by rfl) (ra_cons re_var (ra_cons re_var (ra_cons re_var ra_nil)))) (rg_name sc_read_entry.nd)) (rss_cons (rs_if (rt_w (rw_or (rt_not (rt_ch ch_le ch_le re_int (re_idx re_raw re_int) (re_globI (by rfl) T.c_MOST.choose_spec))) (rw_or1 (rt_gt (re_idx re_raw re_int) (re_globI (by rfl) T.c_MOST.choose_spec))))) (rss_one (rs_raise (eo_BadTable T) (hr.mono (by decide)) (by rfl) (ra_cons re_var (ra_cons (re_str (s := "line")) ra_nil)))) rss_nil) (rss_cons (rs_if (rt_not (rt_tst (re_callD (do_is_ordered T) (hr.mono (by decide)) (by rfl) (ra_cons (re_idx re_raw re_int) (ra_cons (re_idx re_raw re_int) (ra_cons (re_idx re_raw re_int) (ra_cons (re_idx re_raw re_int) ra_nil))))))) (rss_one (rs_raise (eo_BadTable T) (hr.mono (by decide)) (by rfl) (ra_cons re_var (ra_cons (re_str (s := "columns")) ra_nil)))) rss_nil) (rss_one (rs_ret (re_newD (io_Entry T) (hr.mono (by decide)) (by rfl) (ra_cons re_var (ra_cons re_var (ra_cons re_var (ra_cons re_var (ra_cons (re_attr (.fld T.d_Cursor_at .nil) re_raw) ra_nil))))))))))))))))
theorem do_read_entry (T : Txt K mg) : DefOk P w K mg base "read_entry" 3 7 m_read_entry := T.f_read_entry.ok ["data", "at", "line"] (fun f fd F => fo_read_entry F T) fun _ _ _ _ _ _ us hl => match us, hl with | [_, _, _], _ => rfl
theorem sc_read_entries : FnScope ["data", "first_line", "found", "at", "line", "entry"] ["data", "first_line"] (defScope s_read_entries) := ⟨rfl, rfl, rfl, by decide +kernel, rfl, by decide +kernel, by decide +kernel⟩
theorem fo_read_entries {f : Addr} {fd : FuncData} (F : Fun K "read_entries" "read_entries" s_read_entries f fd) (T : Txt K mg) : FnOk P w K mg base (L2.CX P w) 8 f fd ["data", "first_line"] (spI K mg 2 id m_read_entries) :=
  fn_ok (k := 7) F sc_read_entries rfl rfl fun cdv A outer s H E hr => (rss_cons (rs_asg (re_own true (rl_lst ra_nil)) (rg_name sc_read_entries.nd)) (rss_cons (rs_asg re_int (rg_name sc_read_entries.nd)) (rss_cons (rs_asg re_var (rg_name sc_read_entries.nd)) (rss_cons (rs_while (rt_lt re_raw (re_len (by rfl) T.n_len re_raw)) (rss_cons (rs_asg (re_callD (do_read_entry T) (hr.mono (by decide)) (by rfl) (ra_cons re_var (ra_cons re_var (ra_cons re_var ra_nil)))) (rg_name sc_read_entries.nd)) (rss_cons (rs_expr (re_lmet PySem.F.slot_list_append PySem.F.type_list_append mt_append lm_app re_raw (ra_cons re_var ra_nil))) (rss_cons (rs_asg (re_attr (.fld T.d_Entry_end .nil) re_raw) (rg_name sc_read_entries.nd)) (rss_one (rs_if (rt_isnot (re_attr (.fld T.d_Entry_span .nil) re_raw) re_non) (rss_one (rs_asg (re_idx (re_attr (.fld T.d_Entry_span .nil) re_raw) re_int) (rg_name sc_read_entries.nd))) rss_nil)))))) (rss_one (rs_ret re_var))))))
theorem do_read_entries (T : Txt K mg) : DefOk P w K mg base "read_entries" 2 8 m_read_entries := T.f_read_entries.ok ["data", "first_line"] (fun f fd F => fo_read_entries F T) fun _ _ _ _ _ _ us hl => match us, hl with | [_, _], _ => rfl
theorem sc_is_byte_data : FnScope ["thing", "byte"] ["thing"] (defScope s_is_byte_data) := ⟨rfl, rfl, rfl, by decide +kernel, rfl, by decide +kernel, by decide +kernel⟩
theorem fo_is_byte_data {f : Addr} {fd : FuncData} (F : Fun K "is_byte_data" "is_byte_data" s_is_byte_data f fd) (T : Txt K mg) : FnOk P w K mg base (L2.CX P w) 2 f fd ["thing"] (spI K mg 1 id m_is_byte_data) :=
  fn_ok (k := 1) F sc_is_byte_data rfl rfl fun cdv A outer s H E hr => (rss_cons (rs_if (rt_tst (re_isi_bytes (by rfl) T.n_isinstance T.nt (by rfl) T.n_bytes re_raw)) (rss_one (rs_ret re_bl)) rss_nil) (rss_one (rs_ret (re_andV (re_isit_list_tuple (by rfl) T.n_isinstance T.nt (by rfl) T.n_list (by rfl) T.n_tuple re_raw) (re_one (re_all (by rfl) T.n_all (re_compV (own := [("byte", 1)]) sc_is_byte_data.nd (ri_seq re_var) (blkOk_by (own := [("byte", 1)]) (N := ["thing", "byte"]) (sc := defScope s_is_byte_data) (by decide +kernel)) (fun _ _ _ _ _ => (rc_name sc_is_byte_data.nd (by decide))) (fun _ _ _ _ _ => rts_nil) (fun _ _ _ _ _ => (re_callD (do_is_integer T) (hr.mono (by decide)) (by rfl) (ra_cons re_var (ra_cons re_int (ra_cons re_int ra_nil))))))))))))
theorem do_is_byte_data (T : Txt K mg) : DefOk P w K mg base "is_byte_data" 1 2 m_is_byte_data := T.f_is_byte_data.ok ["thing"] (fun f fd F => fo_is_byte_data F T) fun _ _ _ _ _ _ us hl => match us, hl with | [_], _ => rfl
theorem sc_Table___init__ : FnScope ["self", "data", "first_line", "entry"] ["self", "data", "first_line"] (defScope s_Table___init__) := ⟨rfl, rfl, rfl, by decide +kernel, rfl, by decide +kernel, by decide +kernel⟩
theorem fo_Table___init__ {f : Addr} {fd : FuncData} (F : Fun K "__init__" "Table.__init__" s_Table___init__ f fd) (T : Txt K mg) : FnOk P w K mg base (L2.CX P w) 9 f fd ["self", "data", "first_line"] (spI K mg 3 List.dropLast m_Table___init__) :=
  ini_ok (k := 8) F sc_Table___init__ rfl rfl fun cdv A outer s H E hr => (rss_cons (rs_if (rt_not (rt_tst (re_callD (do_is_byte_data T) (hr.mono (by decide)) (by rfl) (ra_cons re_var ra_nil)))) (rss_one (rs_raise (eo_BadTable T) (hr.mono (by decide)) (by rfl) (ra_cons (re_neg re_int) (ra_cons (re_str (s := "data")) ra_nil)))) rss_nil) (rss_cons (rs_expr (re_callD (do_want_line T) (hr.mono (by decide)) (by rfl) (ra_cons re_var ra_nil))) (rss_cons (rs_setF (.cons T.d_Table_held_data .nil) re_raw (re_byts (by rfl) T.n_bytes re_raw)) (rss_cons (rs_setF (.cons T.d_Table_held_line .nil) re_raw re_var) (rss_cons (rs_setF (.cons T.d_Table_read .nil) re_raw (re_callD (do_read_entries T) (hr.mono (by decide)) (by rfl) (ra_cons (re_attr (.fld T.d_Table_held_data .nil) re_raw) (ra_cons re_var ra_nil)))) (rss_cons (rs_setF (.cons T.d_Table_held_spans .nil) re_raw (re_own true (rl_lst ra_nil))) (rss_one (rs_for (ri_seq (re_attr (.fld T.d_Table_read .nil) re_raw)) (rg_name sc_Table___init__.nd) (rss_one (rs_expr (re_lmet PySem.F.slot_list_extend PySem.F.type_list_extend mt_extend lm_ext (re_attr (.fld T.d_Table_held_spans .nil) re_raw) (ra_cons (re_mul (re_frz (rl_lst (ra_cons (re_attr (.fld T.d_Entry_span .nil) re_raw) ra_nil))) (re_attr (.fld T.d_Entry_steps .nil) re_raw)) ra_nil))))))))))))
theorem io_Table (T : Txt K mg) : InitOk P w K mg base "Table" 2 9 m_Table___init__ := T.f_Table___init__.ok ["self", "data", "first_line"] (fun f fd F => fo_Table___init__ F T) fun _ _ _ _ _ _ us hl => match us, hl with | [_, _, _], _ => rfl
theorem sc_is_span : FnScope ["thing", "line", "end_line", "column", "end_column"] ["thing"] (defScope s_is_span) := ⟨rfl, rfl, rfl, by decide +kernel, rfl, by decide +kernel, by decide +kernel⟩
theorem fo_is_span {f : Addr} {fd : FuncData} (F : Fun K "is_span" "is_span" s_is_span f fd) (T : Txt K mg) : FnOk P w K mg base (L2.CX P w) 3 f fd ["thing"] (spI K mg 1 id m_is_span) :=
  fn_ok (k := 2) F sc_is_span rfl rfl fun cdv A outer s H E hr => (rss_cons (rs_if (rt_is re_raw re_non) (rss_one (rs_ret re_bl)) rss_nil) (rss_cons (rs_if (rt_w (rw_or (rt_not (rt_tst (re_isi_tuple (by rfl) T.n_isinstance T.nt (by rfl) T.n_tuple re_raw))) (rw_or1 (rt_ne (re_len (by rfl) T.n_len re_raw) re_int)))) (rss_one (rs_ret re_bl)) rss_nil) (rss_cons (rs_asg re_var (rg_row (rgs_cons (rg_name sc_is_span.nd) (rgs_cons (rg_name sc_is_span.nd) (rgs_cons (rg_name sc_is_span.nd) (rgs_cons (rg_name sc_is_span.nd) rgs_nil)))))) (rss_cons (rs_if (rt_w (rw_or (rt_not (rt_tst (re_callD (do_is_integer T) (hr.mono (by decide)) (by rfl) (ra_cons re_var (ra_cons re_int (ra_cons (re_globI (by rfl) T.c_MOST.choose_spec) ra_nil)))))) (rw_or1 (rt_not (rt_tst (re_callD (do_is_integer T) (hr.mono (by decide)) (by rfl) (ra_cons re_var (ra_cons re_var (ra_cons (re_globI (by rfl) T.c_MOST.choose_spec) ra_nil))))))))) (rss_one (rs_ret re_bl)) rss_nil) (rss_one (rs_ret (re_callD (do_is_ordered T) (hr.mono (by decide)) (by rfl) (ra_cons re_var (ra_cons re_var (ra_cons re_var (ra_cons re_var ra_nil)))))))))))
theorem do_is_span (T : Txt K mg) : DefOk P w K mg base "is_span" 1 3 m_is_span := T.f_is_span.ok ["thing"] (fun f fd F => fo_is_span F T) fun _ _ _ _ _ _ us hl => match us, hl with | [_], _ => rfl
theorem sc_want_spans : FnScope ["spans", "at", "span"] ["spans"] (defScope s_want_spans) := ⟨rfl, rfl, rfl, by decide +kernel, rfl, by decide +kernel, by decide +kernel⟩
theorem fo_want_spans {f : Addr} {fd : FuncData} (F : Fun K "want_spans" "want_spans" s_want_spans f fd) (T : Txt K mg) : FnOk P w K mg base (L2.CX P w) 4 f fd ["spans"] (spI K mg 1 id m_want_spans) :=
  fn_ok (k := 3) F sc_want_spans rfl rfl fun cdv A outer s H E hr => (rss_cons (rs_if (rt_not (rt_tst (re_isit_list_tuple (by rfl) T.n_isinstance T.nt (by rfl) T.n_list (by rfl) T.n_tuple re_raw))) (rss_one (rs_raise (eo_BadSpan T) (hr.mono (by decide)) (by rfl) (ra_cons (re_neg re_int) ra_nil))) rss_nil) (rss_one (rs_for (ri_enum (by rfl) T.n_enumerate re_var) (rg_row (rgs_cons (rg_name sc_want_spans.nd) (rgs_cons (rg_name sc_want_spans.nd) rgs_nil))) (rss_one (rs_if (rt_not (rt_tst (re_callD (do_is_span T) (hr.mono (by decide)) (by rfl) (ra_cons re_var ra_nil)))) (rss_one (rs_raise (eo_BadSpan T) (hr.mono (by decide)) (by rfl) (ra_cons re_var ra_nil))) rss_nil)))))
theorem do_want_spans (T : Txt K mg) : DefOk P w K mg base "want_spans" 1 4 m_want_spans := T.f_want_spans.ok ["spans"] (fun f fd F => fo_want_spans F T) fun _ _ _ _ _ _ us hl => match us, hl with | [_], _ => rfl
theorem sc_runs_of : FnScope ["spans", "found", "start", "step", "span"] ["spans"] (defScope s_runs_of) := ⟨rfl, rfl, rfl, by decide +kernel, rfl, by decide +kernel, by decide +kernel⟩
theorem fo_runs_of {f : Addr} {fd : FuncData} (F : Fun K "runs_of" "runs_of" s_runs_of f fd) (T : Txt K mg) : FnOk P w K mg base (L2.CX P w) 1 f fd ["spans"] (spI K mg 1 id m_runs_of) :=
  fn_ok (k := 0) F sc_runs_of rfl rfl fun cdv A outer s H E hr => (rss_cons (rs_asg (re_own true (rl_lst ra_nil)) (rg_name sc_runs_of.nd)) (rss_cons (rs_asg re_int (rg_name sc_runs_of.nd)) (rss_cons (rs_for (ri_enum (by rfl) T.n_enumerate re_var) (rg_row (rgs_cons (rg_name sc_runs_of.nd) (rgs_cons (rg_name sc_runs_of.nd) rgs_nil))) (rss_one (rs_if (rt_w (rw_or (rt_eq (re_add re_raw re_int) (re_len (by rfl) T.n_len re_raw)) (rw_or1 (rt_ne (re_idx re_raw (re_add re_raw re_int)) re_raw)))) (rss_cons (rs_expr (re_lmet PySem.F.slot_list_append PySem.F.type_list_append mt_append lm_app re_raw (ra_cons (re_tup (ra_cons re_var (ra_cons (re_add re_raw re_int) (ra_cons re_var ra_nil)))) ra_nil))) (rss_one (rs_asg (re_add re_raw re_int) (rg_name sc_runs_of.nd)))) rss_nil))) (rss_one (rs_ret re_var)))))
theorem do_runs_of (T : Txt K mg) : DefOk P w K mg base "runs_of" 1 1 m_runs_of := T.f_runs_of.ok ["spans"] (fun f fd F => fo_runs_of F T) fun _ _ _ _ _ _ us hl => match us, hl with | [_], _ => rfl
theorem sc_groups_of : FnScope ["n", "found", "rest"] ["n"] (defScope s_groups_of) := ⟨rfl, rfl, rfl, by decide +kernel, rfl, by decide +kernel, by decide +kernel⟩
theorem fo_groups_of {f : Addr} {fd : FuncData} (F : Fun K "groups_of" "groups_of" s_groups_of f fd) (T : Txt K mg) : FnOk P w K mg base (L2.CX P w) 1 f fd ["n"] (spI K mg 1 id m_groups_of) :=
  fn_ok (k := 0) F sc_groups_of rfl rfl fun cdv A outer s H E hr => (rss_cons (rs_asg (re_own true (rl_lst (ra_cons (re_band re_raw re_int) ra_nil))) (rg_name sc_groups_of.nd)) (rss_cons (rs_asg (re_shr re_raw re_int) (rg_name sc_groups_of.nd)) (rss_cons (rs_while (rt_gt re_raw re_int) (rss_cons (rs_augS in_add ip_addI re_raw (re_neg re_int) re_int) (rss_cons (rs_expr (re_lmet PySem.F.slot_list_append PySem.F.type_list_append mt_append lm_app re_raw (ra_cons (re_band re_raw re_int) ra_nil))) (rss_one (rs_asg (re_shr re_raw re_int) (rg_name sc_groups_of.nd)))))) (rss_one (rs_ret re_var)))))
theorem do_groups_of (T : Txt K mg) : DefOk P w K mg base "groups_of" 1 1 m_groups_of := T.f_groups_of.ok ["n"] (fun f fd F => fo_groups_of F T) fun _ _ _ _ _ _ us hl => match us, hl with | [_], _ => rfl
theorem sc_folded : FnScope ["n"] ["n"] (defScope s_folded) := ⟨rfl, rfl, rfl, by decide +kernel, rfl, by decide +kernel, by decide +kernel⟩
theorem fo_folded {f : Addr} {fd : FuncData} (F : Fun K "folded" "folded" s_folded f fd) (T : Txt K mg) : FnOk P w K mg base (L2.CX P w) 1 f fd ["n"] (spI K mg 1 id m_folded) :=
  fn_ok (k := 0) F sc_folded rfl rfl fun cdv A outer s H E hr => (rss_one (rs_ret (re_ifE (rt_ge re_raw re_int) (re_mul re_int re_raw) (re_sub re_int (re_mul re_int re_raw)))))
theorem do_folded (T : Txt K mg) : DefOk P w K mg base "folded" 1 1 m_folded := T.f_folded.ok ["n"] (fun f fd F => fo_folded F T) fun _ _ _ _ _ _ us hl => match us, hl with | [_], _ => rfl
theorem sc_body_of : FnScope ["span", "line", "delta", "is_one_line", "first", "last", "column", "end_column"] ["span", "line"] (defScope s_body_of) := ⟨rfl, rfl, rfl, by decide +kernel, rfl, by decide +kernel, by decide +kernel⟩
theorem fo_body_of {f : Addr} {fd : FuncData} (F : Fun K "body_of" "body_of" s_body_of f fd) (T : Txt K mg) : FnOk P w K mg base (L2.CX P w) 2 f fd ["span", "line"] (spI K mg 2 id m_body_of) :=
  fn_ok (k := 1) F sc_body_of rfl rfl fun cdv A outer s H E hr => (rss_cons (rs_if (rt_is re_raw re_non) (rss_one (rs_ret (re_tup (ra_cons re_int (ra_cons (re_frz (rl_lst ra_nil)) ra_nil))))) rss_nil) (rss_cons (rs_asg re_var (rg_row (rgs_cons (rg_name sc_body_of.nd) (rgs_cons (rg_name sc_body_of.nd) (rgs_cons (rg_name sc_body_of.nd) (rgs_cons (rg_name sc_body_of.nd) rgs_nil)))))) (rss_cons (rs_asg (re_sub re_raw re_raw) (rg_name sc_body_of.nd)) (rss_cons (rs_if (rt_is re_raw re_non) (rss_one (rs_ret (re_tup (ra_cons re_int (ra_cons (re_callD (do_groups_of T) (hr.mono (by decide)) (by rfl) (ra_cons (re_callD (do_folded T) (hr.mono (by decide)) (by rfl) (ra_cons re_var ra_nil)) ra_nil)) ra_nil))))) rss_nil) (rss_cons (rs_asg (re_eq re_raw re_raw) (rg_name sc_body_of.nd)) (rss_cons (rs_if (rt_w (rw_and (rt_tst re_raw) (rw_and (rt_eq re_raw re_int) (rw_and (rt_lt re_raw re_int) (rw_and1 (rt_lt (re_sub re_raw re_raw) re_int)))))) (rss_one (rs_ret (re_tup (ra_cons (re_shr re_raw re_int) (ra_cons (re_frz (rl_lst (ra_cons (re_sub (re_add (re_mul (re_band re_raw re_int) re_int) re_raw) re_raw) ra_nil))) ra_nil))))) rss_nil) (rss_cons (rs_if (rt_w (rw_and (rt_tst re_raw) (rw_and (rt_ch ch_le ch_le re_int re_raw re_int) (rw_and1 (rt_lt re_raw re_int))))) (rss_one (rs_ret (re_tup (ra_cons (re_add re_int re_raw) (ra_cons (re_frz (rl_lst (ra_cons re_var (ra_cons re_var ra_nil)))) ra_nil))))) rss_nil) (rss_one (rs_ret (re_tup (ra_cons re_int (ra_cons (re_add (re_add (re_add (re_callD (do_groups_of T) (hr.mono (by decide)) (by rfl) (ra_cons (re_callD (do_folded T) (hr.mono (by decide)) (by rfl) (ra_cons re_var ra_nil)) ra_nil)) (re_callD (do_groups_of T) (hr.mono (by decide)) (by rfl) (ra_cons (re_sub re_raw re_raw) ra_nil))) (re_callD (do_groups_of T) (hr.mono (by decide)) (by rfl) (ra_cons (re_add re_raw re_int) ra_nil))) (re_callD (do_groups_of T) (hr.mono (by decide)) (by rfl) (ra_cons (re_add re_raw re_int) ra_nil))) ra_nil))))))))))))
theorem do_body_of (T : Txt K mg) : DefOk P w K mg base "body_of" 2 2 m_body_of := T.f_body_of.ok ["span", "line"] (fun f fd F => fo_body_of F T) fun _ _ _ _ _ _ us hl => match us, hl with | [_, _], _ => rfl
theorem sc_write_run : FnScope ["steps", "span", "line", "found", "many", "form", "further"] ["steps", "span", "line"] (defScope s_write_run) := ⟨rfl, rfl, rfl, by decide +kernel, rfl, by decide +kernel, by decide +kernel⟩
theorem fo_write_run {f : Addr} {fd : FuncData} (F : Fun K "write_run" "write_run" s_write_run f fd) (T : Txt K mg) : FnOk P w K mg base (L2.CX P w) 3 f fd ["steps", "span", "line"] (spI K mg 3 id m_write_run) :=
  fn_ok (k := 2) F sc_write_run rfl rfl fun cdv A outer s H E hr => (rss_cons (rs_asg (re_own true (rl_lst ra_nil)) (rg_name sc_write_run.nd)) (rss_cons (rs_while (rt_gt re_raw re_int) (rss_cons (rs_asg (re_min2 (by rfl) T.n_min re_raw re_int) (rg_name sc_write_run.nd)) (rss_cons (rs_asg (re_callD (do_body_of T) (hr.mono (by decide)) (by rfl) (ra_cons re_var (ra_cons re_var ra_nil))) (rg_row (rgs_cons (rg_name sc_write_run.nd) (rgs_cons (rg_name sc_write_run.nd) rgs_nil)))) (rss_cons (rs_expr (re_lmet PySem.F.slot_list_append PySem.F.type_list_append mt_append lm_app re_raw (ra_cons (re_sub (re_add (re_add re_int (re_mul re_int re_raw)) re_raw) re_int) ra_nil))) (rss_cons (rs_expr (re_lmet PySem.F.slot_list_extend PySem.F.type_list_extend mt_extend lm_ext re_raw (ra_cons re_raw ra_nil))) (rss_cons (rs_augX sc_write_run.nd in_sub ip_subI re_raw) (rss_one (rs_if (rt_isnot re_raw re_non) (rss_one (rs_asg (re_idx re_raw re_int) (rg_name sc_write_run.nd))) rss_nil)))))))) (rss_one (rs_ret re_var))))
theorem do_write_run (T : Txt K mg) : DefOk P w K mg base "write_run" 3 3 m_write_run := T.f_write_run.ok ["steps", "span", "line"] (fun f fd F => fo_write_run F T) fun _ _ _ _ _ _ us hl => match us, hl with | [_, _, _], _ => rfl
theorem sc_write_spans : FnScope ["spans", "first_line", "found", "line", "start", "end", "span"] ["spans", "first_line"] (defScope s_write_spans) := ⟨rfl, rfl, rfl, by decide +kernel, rfl, by decide +kernel, by decide +kernel⟩
theorem fo_write_spans {f : Addr} {fd : FuncData} (F : Fun K "write_spans" "write_spans" s_write_spans f fd) (T : Txt K mg) : FnOk P w K mg base (L2.CX P w) 4 f fd ["spans", "first_line"] (spI K mg 2 id m_write_spans) :=
  fn_ok (k := 3) F sc_write_spans rfl rfl fun cdv A outer s H E hr => (rss_cons (rs_asg (re_own true (rl_lst ra_nil)) (rg_name sc_write_spans.nd)) (rss_cons (rs_asg re_var (rg_name sc_write_spans.nd)) (rss_cons (rs_for (ri_seq (re_callD (do_runs_of T) (hr.mono (by decide)) (by rfl) (ra_cons re_var ra_nil))) (rg_row (rgs_cons (rg_name sc_write_spans.nd) (rgs_cons (rg_name sc_write_spans.nd) (rgs_cons (rg_name sc_write_spans.nd) rgs_nil)))) (rss_cons (rs_expr (re_lmet PySem.F.slot_list_extend PySem.F.type_list_extend mt_extend lm_ext re_raw (ra_cons (re_callD (do_write_run T) (hr.mono (by decide)) (by rfl) (ra_cons (re_sub re_raw re_raw) (ra_cons re_var (ra_cons re_var ra_nil)))) ra_nil))) (rss_one (rs_if (rt_isnot re_raw re_non) (rss_one (rs_asg (re_idx re_raw re_int) (rg_name sc_write_spans.nd))) rss_nil)))) (rss_one (rs_ret (re_byts (by rfl) T.n_bytes re_raw))))))
theorem do_write_spans (T : Txt K mg) : DefOk P w K mg base "write_spans" 2 4 m_write_spans := T.f_write_spans.ok ["spans", "first_line"] (fun f fd F => fo_write_spans F T) fun _ _ _ _ _ _ us hl => match us, hl with | [_, _], _ => rfl
theorem sc_Table_of : FnScope ["spans", "first_line"] ["spans", "first_line"] (defScope s_Table_of) := ⟨rfl, rfl, rfl, by decide +kernel, rfl, by decide +kernel, by decide +kernel⟩
theorem fo_Table_of {f : Addr} {fd : FuncData} (F : Fun K "of" "Table.of" s_Table_of f fd) (T : Txt K mg) : FnOk P w K mg base (L2.CX P w) 11 f fd ["spans", "first_line"] (spI K mg 2 id m_Table_of) :=
  fn_ok (k := 10) F sc_Table_of rfl rfl fun cdv A outer s H E hr => (rss_cons (rs_expr (re_callD (do_want_spans T) (hr.mono (by decide)) (by rfl) (ra_cons re_var ra_nil))) (rss_cons (rs_expr (re_callD (do_want_line T) (hr.mono (by decide)) (by rfl) (ra_cons re_var ra_nil))) (rss_one (rs_ret (re_newD (io_Table T) (hr.mono (by decide)) (by rfl) (ra_cons (re_callD (do_write_spans T) (hr.mono (by decide)) (by rfl) (ra_cons re_var (ra_cons re_var ra_nil))) (ra_cons re_var ra_nil)))))))
theorem so_Table_of (T : Txt K mg) : SmOk P w K mg base "Table" "of" 2 11 m_Table_of := T.f_Table_of.ok ["spans", "first_line"] (fun f fd F => fo_Table_of F T) fun _ _ _ _ _ _ us hl => match us, hl with | [_, _], _ => rfl
theorem sc__law_idle : FnScope ["_law_well_here", "_law_spans_here", "_law_last", "_law_found", "_law_span_here"] ["_law_well_here", "_law_spans_here"] (defScope s__law_idle) := ⟨rfl, rfl, rfl, by decide +kernel, rfl, by decide +kernel, by decide +kernel⟩
theorem fo__law_idle {f : Addr} {fd : FuncData} (F : Fun K "_law_idle" "_law_idle" s__law_idle f fd) (T : Txt K mg) : FnOk P w K mg base (L2.CX P w) 2 f fd ["_law_well_here", "_law_spans_here"] (spI K mg 2 id m__law_idle) :=
  fn_ok (k := 1) F sc__law_idle rfl rfl fun cdv A outer s H E hr => (rss_cons (rs_asg (re_max (by rfl) T.n_max (re_add (re_frz (rl_lst (ra_cons re_int ra_nil))) (re_compV (own := [("_law_span_here", 4)]) sc__law_idle.nd (ri_seq re_var) (blkOk_by (own := [("_law_span_here", 4)]) (N := ["_law_well_here", "_law_spans_here", "_law_last", "_law_found", "_law_span_here"]) (sc := defScope s__law_idle) (by decide +kernel)) (fun _ _ _ _ _ => (rc_name sc__law_idle.nd (by decide))) (fun _ _ _ _ _ => (rts_one (rt_isnot re_raw re_non))) (fun _ _ _ _ _ => (re_idx re_raw re_int))))) (rg_name sc__law_idle.nd)) (rss_cons (rs_asg (re_frz (rl_lst (ra_cons (re_tup (ra_cons (re_add re_int (re_callD (do__law_draw T) (hr.mono (by decide)) (by rfl) (ra_cons re_var (ra_cons re_int ra_nil)))) (ra_cons re_int (ra_cons re_int ra_nil)))) (ra_cons (re_tup (ra_cons re_int (ra_cons re_int (ra_cons re_int ra_nil)))) ra_nil)))) (rg_name sc__law_idle.nd)) (rss_cons (rs_if (rt_lt re_raw re_int) (rss_one (rs_asg (re_add re_raw (re_frz (rl_lst (ra_cons (re_tup (ra_cons (re_add re_raw re_int) (ra_cons (re_callD (do__law_draw T) (hr.mono (by decide)) (by rfl) (ra_cons re_var (ra_cons re_int ra_nil))) (ra_cons (re_callD (do__law_draw T) (hr.mono (by decide)) (by rfl) (ra_cons re_var (ra_cons re_int ra_nil))) ra_nil)))) (ra_cons (re_tup (ra_cons re_int (ra_cons re_int (ra_cons re_int ra_nil)))) ra_nil))))) (rg_name sc__law_idle.nd))) rss_nil) (rss_one (rs_ret re_var)))))
theorem do__law_idle (T : Txt K mg) : DefOk P w K mg base "_law_idle" 2 2 m__law_idle := T.f__law_idle.ok ["_law_well_here", "_law_spans_here"] (fun f fd F => fo__law_idle F T) fun _ _ _ _ _ _ us hl => match us, hl with | [_, _], _ => rfl
theorem sc__law_groups : FnScope ["_law_number", "_law_found"] ["_law_number"] (defScope s__law_groups) := ⟨rfl, rfl, rfl, by decide +kernel, rfl, by decide +kernel, by decide +kernel⟩
theorem fo__law_groups {f : Addr} {fd : FuncData} (F : Fun K "_law_groups" "_law_groups" s__law_groups f fd) (T : Txt K mg) : FnOk P w K mg base (L2.CX P w) 1 f fd ["_law_number"] (spI K mg 1 id m__law_groups) :=
  fn_ok (k := 0) F sc__law_groups rfl rfl fun cdv A outer s H E hr => (rss_cons (rs_asg (re_own true (rl_lst ra_nil)) (rg_name sc__law_groups.nd)) (rss_cons (rs_while (rt_ge re_raw re_int) (rss_cons (rs_expr (re_lmet PySem.F.slot_list_append PySem.F.type_list_append mt_append lm_app re_raw (ra_cons (re_add (re_mod (re_toint (by rfl) T.n_int re_raw) re_int) re_int) ra_nil))) (rss_one (rs_asg (re_fdiv re_raw re_int) (rg_name sc__law_groups.nd))))) (rss_one (rs_ret (re_add re_raw (re_frz (rl_lst (ra_cons re_var ra_nil))))))))
theorem do__law_groups (T : Txt K mg) : DefOk P w K mg base "_law_groups" 1 1 m__law_groups := T.f__law_groups.ok ["_law_number"] (fun f fd F => fo__law_groups F T) fun _ _ _ _ _ _ us hl => match us, hl with | [_], _ => rfl
theorem sc__law_groups_K : FnScope ["_law_number", "_law_found"] ["_law_number"] (defScope s__law_groups) := ⟨rfl, rfl, rfl, by decide +kernel, rfl, by decide +kernel, by decide +kernel⟩
theorem fo__law_groups_K {f : Addr} {fd : FuncData} (F : Fun K "_law_groups" "_law_groups" s__law_groups f fd) (T : Txt K mg) : FnOk P w K mg base (L2.CX P w) 1 f fd ["_law_number"] (spI K mg 1 id m__law_groups_K) :=
  fn_ok (k := 0) F sc__law_groups_K rfl rfl fun cdv A outer s H E hr => (rss_cons (rs_asg (re_own true (rl_lst ra_nil)) (rg_name sc__law_groups_K.nd)) (rss_cons (rs_while (rt_ge re_raw re_int) (rss_cons (rs_expr (re_lmet PySem.F.slot_list_append PySem.F.type_list_append mt_append lm_app re_raw (ra_cons (re_add (re_mod (re_toint (by rfl) T.n_int re_raw) re_int) re_int) ra_nil))) (rss_one (rs_asg (re_fdiv re_raw re_int) (rg_name sc__law_groups_K.nd))))) (rss_one (rs_ret (re_own true (rl_add re_raw (re_frz (rl_lst (ra_cons re_var ra_nil)))))))))
theorem do__law_groups_K (T : Txt K mg) : DefOk P w K mg base "_law_groups" 1 1 m__law_groups_K := T.f__law_groups.ok ["_law_number"] (fun f fd F => fo__law_groups_K F T) fun _ _ _ _ _ _ us hl => match us, hl with | [_], _ => rfl
theorem sc__law_padded : FnScope ["_law_well_here", "_law_number", "_law_found", "_law_k"] ["_law_well_here", "_law_number"] (defScope s__law_padded) := ⟨rfl, rfl, rfl, by decide +kernel, rfl, by decide +kernel, by decide +kernel⟩
theorem fo__law_padded {f : Addr} {fd : FuncData} (F : Fun K "_law_padded" "_law_padded" s__law_padded f fd) (T : Txt K mg) : FnOk P w K mg base (L2.CX P w) 3 f fd ["_law_well_here", "_law_number"] (spI K mg 2 id m__law_padded) :=
  fn_ok (k := 2) F sc__law_padded rfl rfl fun cdv A outer s H E hr => (rss_cons (rs_asg (re_callD (do__law_groups_K T) (hr.mono (by decide)) (by rfl) (ra_cons re_var ra_nil)) (rg_name sc__law_padded.nd)) (rss_cons (rs_for (ri_range1 (by rfl) T.n_range (re_callD (do__law_one T) (hr.mono (by decide)) (by rfl) (ra_cons re_var (ra_cons (re_frz (rl_lst (ra_cons re_int (ra_cons re_int (ra_cons re_int (ra_cons re_int (ra_cons (re_sub re_int (re_len (by rfl) T.n_len re_raw)) ra_nil))))))) ra_nil)))) (rg_name sc__law_padded.nd) (rss_cons (rs_asg (re_add (re_idx re_raw (re_neg re_int)) re_int) (rg_sub re_raw (re_neg re_int))) (rss_one (rs_expr (re_lmet PySem.F.slot_list_append PySem.F.type_list_append mt_append lm_app re_raw (ra_cons re_int ra_nil)))))) (rss_one (rs_ret re_var))))
theorem do__law_padded (T : Txt K mg) : DefOk P w K mg base "_law_padded" 2 3 m__law_padded := T.f__law_padded.ok ["_law_well_here", "_law_number"] (fun f fd F => fo__law_padded F T) fun _ _ _ _ _ _ us hl => match us, hl with | [_, _], _ => rfl
theorem sc__law_folded : FnScope ["_law_number"] ["_law_number"] (defScope s__law_folded) := ⟨rfl, rfl, rfl, by decide +kernel, rfl, by decide +kernel, by decide +kernel⟩
theorem fo__law_folded {f : Addr} {fd : FuncData} (F : Fun K "_law_folded" "_law_folded" s__law_folded f fd) (T : Txt K mg) : FnOk P w K mg base (L2.CX P w) 1 f fd ["_law_number"] (spI K mg 1 id m__law_folded) :=
  fn_ok (k := 0) F sc__law_folded rfl rfl fun cdv A outer s H E hr => (rss_one (rs_ret (re_ifE (rt_ge re_raw re_int) (re_mul re_int re_raw) (re_sub re_int (re_mul re_int re_raw)))))
theorem do__law_folded (T : Txt K mg) : DefOk P w K mg base "_law_folded" 1 1 m__law_folded := T.f__law_folded.ok ["_law_number"] (fun f fd F => fo__law_folded F T) fun _ _ _ _ _ _ us hl => match us, hl with | [_], _ => rfl
theorem sc__law_column_number : FnScope ["_law_column_here"] ["_law_column_here"] (defScope s__law_column_number) := ⟨rfl, rfl, rfl, by decide +kernel, rfl, by decide +kernel, by decide +kernel⟩
theorem fo__law_column_number {f : Addr} {fd : FuncData} (F : Fun K "_law_column_number" "_law_column_number" s__law_column_number f fd) (T : Txt K mg) : FnOk P w K mg base (L2.CX P w) 1 f fd ["_law_column_here"] (spI K mg 1 id m__law_column_number) :=
  fn_ok (k := 0) F sc__law_column_number rfl rfl fun cdv A outer s H E hr => (rss_one (rs_ret (re_ifE (rt_is re_raw re_non) re_int (re_add re_raw re_int))))
theorem do__law_column_number (T : Txt K mg) : DefOk P w K mg base "_law_column_number" 1 1 m__law_column_number := T.f__law_column_number.ok ["_law_column_here"] (fun f fd F => fo__law_column_number F T) fun _ _ _ _ _ _ us hl => match us, hl with | [_], _ => rfl
theorem sc__law_loose_entry : FnScope ["_law_well_here", "_law_span_here", "_law_line_here", "_law_steps", "_law_delta", "_law_some", "_law_first", "_law_last", "_law_column_here", "_law_end_column"] ["_law_well_here", "_law_span_here", "_law_line_here", "_law_steps"] (defScope s__law_loose_entry) := ⟨rfl, rfl, rfl, by decide +kernel, rfl, by decide +kernel, by decide +kernel⟩
theorem fo__law_loose_entry {f : Addr} {fd : FuncData} (F : Fun K "_law_loose_entry" "_law_loose_entry" s__law_loose_entry f fd) (T : Txt K mg) : FnOk P w K mg base (L2.CX P w) 4 f fd ["_law_well_here", "_law_span_here", "_law_line_here", "_law_steps"] (spI K mg 4 id m__law_loose_entry) :=
  fn_ok (k := 3) F sc__law_loose_entry rfl rfl fun cdv A outer s H E hr => (rss_cons (rs_if (rt_is re_raw re_non) (rss_one (rs_ret (re_frz (rl_lst (ra_cons (re_sub (re_add re_int re_raw) re_int) ra_nil))))) rss_nil) (rss_cons (rs_asg re_var (rg_row (rgs_cons (rg_name sc__law_loose_entry.nd) (rgs_cons (rg_name sc__law_loose_entry.nd) (rgs_cons (rg_name sc__law_loose_entry.nd) (rgs_cons (rg_name sc__law_loose_entry.nd) rgs_nil)))))) (rss_cons (rs_asg (re_callD (do__law_padded T) (hr.mono (by decide)) (by rfl) (ra_cons re_var (ra_cons (re_callD (do__law_folded T) (hr.mono (by decide)) (by rfl) (ra_cons (re_sub re_raw re_raw) ra_nil)) ra_nil))) (rg_name sc__law_loose_entry.nd)) (rss_cons (rs_asg (re_own true (rl_lst (ra_cons (re_add (re_add (re_frz (rl_lst (ra_cons (re_sub (re_add re_int re_raw) re_int) ra_nil))) re_raw) (re_callD (do__law_padded T) (hr.mono (by decide)) (by rfl) (ra_cons re_var (ra_cons (re_sub re_raw re_raw) ra_nil)))) ra_nil))) (rg_name sc__law_loose_entry.nd)) (rss_cons (rs_asg (re_add (re_idx re_raw re_int) (re_callD (do__law_padded T) (hr.mono (by decide)) (by rfl) (ra_cons re_var (ra_cons (re_callD (do__law_column_number T) (hr.mono (by decide)) (by rfl) (ra_cons re_var ra_nil)) ra_nil)))) (rg_sub re_raw re_int)) (rss_cons (rs_asg (re_add (re_idx re_raw re_int) (re_callD (do__law_padded T) (hr.mono (by decide)) (by rfl) (ra_cons re_var (ra_cons (re_callD (do__law_column_number T) (hr.mono (by decide)) (by rfl) (ra_cons re_var ra_nil)) ra_nil)))) (rg_sub re_raw re_int)) (rss_cons (rs_if (rt_is re_raw re_non) (rss_cons (rs_expr (re_lmet PySem.F.slot_list_append PySem.F.type_list_append mt_append lm_app re_raw (ra_cons (re_add (re_frz (rl_lst (ra_cons (re_sub (re_add re_int re_raw) re_int) ra_nil))) re_raw) ra_nil))) (rss_one (rs_ret (re_callD (do__law_one T) (hr.mono (by decide)) (by rfl) (ra_cons re_var (ra_cons re_var ra_nil)))))) rss_nil) (rss_cons (rs_if (rt_w (rw_and (rt_ch (ch_eq hr.units) (ch_eq hr.units) re_raw re_raw re_raw) (rw_and (rt_lt re_raw re_int) (rw_and1 (rt_lt (re_sub re_raw re_raw) re_int))))) (rss_one (rs_expr (re_lmet PySem.F.slot_list_append PySem.F.type_list_append mt_append lm_app re_raw (ra_cons (re_frz (rl_lst (ra_cons (re_sub (re_add (re_add re_int (re_mul (re_fdiv re_raw re_int) re_int)) re_raw) re_int) (ra_cons (re_sub (re_add (re_mul (re_mod (re_toint (by rfl) T.n_int re_raw) re_int) re_int) re_raw) re_raw) ra_nil)))) ra_nil)))) rss_nil) (rss_cons (rs_if (rt_w (rw_and (rt_eq re_raw re_raw) (rw_and (rt_ch ch_le ch_lt re_int (re_sub re_raw re_raw) re_int) (rw_and1 (rt_lt re_raw re_int))))) (rss_one (rs_expr (re_lmet PySem.F.slot_list_append PySem.F.type_list_append mt_append lm_app re_raw (ra_cons (re_frz (rl_lst (ra_cons (re_sub (re_add (re_add re_int (re_mul re_int (re_sub re_raw re_raw))) re_raw) re_int) (ra_cons re_var (ra_cons re_var ra_nil))))) ra_nil)))) rss_nil) (rss_one (rs_ret (re_callD (do__law_one T) (hr.mono (by decide)) (by rfl) (ra_cons re_var (ra_cons re_var ra_nil))))))))))))))
theorem do__law_loose_entry (T : Txt K mg) : DefOk P w K mg base "_law_loose_entry" 4 4 m__law_loose_entry := T.f__law_loose_entry.ok ["_law_well_here", "_law_span_here", "_law_line_here", "_law_steps"] (fun f fd F => fo__law_loose_entry F T) fun _ _ _ _ _ _ us hl => match us, hl with | [_, _, _, _], _ => rfl
theorem sc__law_written : FnScope ["_law_well_here", "_law_spans_here", "_law_first_line", "_law_data", "_law_line_here", "_law_at", "_law_span_here", "_law_steps", "_law_wish"] ["_law_well_here", "_law_spans_here", "_law_first_line"] (defScope s__law_written) := ⟨rfl, rfl, rfl, by decide +kernel, rfl, by decide +kernel, by decide +kernel⟩
theorem fo__law_written {f : Addr} {fd : FuncData} (F : Fun K "_law_written" "_law_written" s__law_written f fd) (T : Txt K mg) : FnOk P w K mg base (L2.CX P w) 5 f fd ["_law_well_here", "_law_spans_here", "_law_first_line"] (spI K mg 3 id m__law_written) :=
  fn_ok (k := 4) F sc__law_written rfl rfl fun cdv A outer s H E hr => (rss_cons (rs_asg (re_frz (rl_lst ra_nil)) (rg_name sc__law_written.nd)) (rss_cons (rs_asg re_var (rg_name sc__law_written.nd)) (rss_cons (rs_asg re_int (rg_name sc__law_written.nd)) (rss_cons (rs_while (rt_lt re_raw (re_len (by rfl) T.n_len re_raw)) (rss_cons (rs_asg (re_idx re_raw re_raw) (rg_name sc__law_written.nd)) (rss_cons (rs_asg re_int (rg_name sc__law_written.nd)) (rss_cons (rs_asg (re_add re_int (re_callD (do__law_draw T) (hr.mono (by decide)) (by rfl) (ra_cons re_var (ra_cons re_int ra_nil)))) (rg_name sc__law_written.nd)) (rss_cons (rs_while (rt_w (rw_and (rt_lt re_raw re_raw) (rw_and (rt_lt (re_add re_raw re_raw) (re_len (by rfl) T.n_len re_raw)) (rw_and1 (rt_eq (re_idx re_raw (re_add re_raw re_raw)) re_raw))))) (rss_one (rs_asg (re_add re_raw re_int) (rg_name sc__law_written.nd)))) (rss_cons (rs_asg (re_add re_raw (re_callD (do__law_loose_entry T) (hr.mono (by decide)) (by rfl) (ra_cons re_var (ra_cons re_var (ra_cons re_var (ra_cons re_var ra_nil)))))) (rg_name sc__law_written.nd)) (rss_cons (rs_asg (re_add re_raw re_raw) (rg_name sc__law_written.nd)) (rss_one (rs_if (rt_isnot re_raw re_non) (rss_one (rs_asg (re_idx re_raw re_int) (rg_name sc__law_written.nd))) rss_nil))))))))) (rss_one (rs_ret re_var))))))
theorem do__law_written (T : Txt K mg) : DefOk P w K mg base "_law_written" 3 5 m__law_written := T.f__law_written.ok ["_law_well_here", "_law_spans_here", "_law_first_line"] (fun f fd F => fo__law_written F T) fun _ _ _ _ _ _ us hl => match us, hl with | [_, _, _], _ => rfl
theorem sc__law_edit : FnScope ["_law_well_here", "_law_spans_here", "_law_lines", "_law_span_here", "_law_line_here", "_law_sizes"] ["_law_well_here", "_law_spans_here"] (defScope s__law_edit) := ⟨rfl, rfl, rfl, by decide +kernel, rfl, by decide +kernel, by decide +kernel⟩
theorem fo__law_edit {f : Addr} {fd : FuncData} (F : Fun K "_law_edit" "_law_edit" s__law_edit f fd) (T : Txt K mg) : FnOk P w K mg base (L2.CX P w) 3 f fd ["_law_well_here", "_law_spans_here"] (spI K mg 2 id m__law_edit) :=
  fn_ok (k := 2) F sc__law_edit rfl rfl fun cdv A outer s H E hr => (rss_cons (rs_asg (re_frz (rl_lst (ra_cons re_int ra_nil))) (rg_name sc__law_edit.nd)) (rss_cons (rs_for (ri_seq re_var) (rg_name sc__law_edit.nd) (rss_one (rs_if (rt_isnot re_raw re_non) (rss_one (rs_asg (re_add re_raw (re_frz (rl_lst (ra_cons (re_idx re_raw re_int) (ra_cons (re_idx re_raw re_int) ra_nil))))) (rg_name sc__law_edit.nd))) rss_nil))) (rss_cons (rs_asg (re_min2 (by rfl) T.n_min re_int (re_max2 (by rfl) T.n_max re_int (re_sub (re_add (re_callD (do__law_one T) (hr.mono (by decide)) (by rfl) (ra_cons re_var (ra_cons re_var ra_nil))) (re_callD (do__law_draw T) (hr.mono (by decide)) (by rfl) (ra_cons re_var (ra_cons re_int ra_nil)))) re_int))) (rg_name sc__law_edit.nd)) (rss_cons (rs_asg (re_frz (rl_lst (ra_cons re_int (ra_cons re_int (ra_cons re_int (ra_cons re_int (ra_cons (re_callD (do__law_draw T) (hr.mono (by decide)) (by rfl) (ra_cons re_var (ra_cons re_int ra_nil))) (ra_cons (re_sub re_int (re_callD (do__law_draw T) (hr.mono (by decide)) (by rfl) (ra_cons re_var (ra_cons re_int ra_nil)))) ra_nil)))))))) (rg_name sc__law_edit.nd)) (rss_one (rs_ret (re_tup (ra_cons re_var (ra_cons (re_callD (do__law_one T) (hr.mono (by decide)) (by rfl) (ra_cons re_var (ra_cons re_var ra_nil))) (ra_cons (re_callD (do__law_one T) (hr.mono (by decide)) (by rfl) (ra_cons re_var (ra_cons re_var ra_nil))) ra_nil))))))))))
theorem do__law_edit (T : Txt K mg) : DefOk P w K mg base "_law_edit" 2 3 m__law_edit := T.f__law_edit.ok ["_law_well_here", "_law_spans_here"] (fun f fd F => fo__law_edit F T) fun _ _ _ _ _ _ us hl => match us, hl with | [_, _], _ => rfl
theorem sc_Table_first_line : FnScope ["self"] ["self"] (defScope s_Table_first_line) := ⟨rfl, rfl, rfl, by decide +kernel, rfl, by decide +kernel, by decide +kernel⟩
theorem fo_Table_first_line {f : Addr} {fd : FuncData} (F : Fun K "first_line" "Table.first_line" s_Table_first_line f fd) (T : Txt K mg) : FnOk P w K mg base (L2.CX P w) 1 f fd ["self"] (spI K mg 1 id m_Table_first_line) :=
  fn_ok (k := 0) F sc_Table_first_line rfl rfl fun cdv A outer s H E hr => (rss_one (rs_ret (re_attr (.fld T.d_Table_held_line .nil) re_raw)))
theorem po_Table_first_line (T : Txt K mg) : PropOk P w K mg base "first_line" "Table" 1 m_Table_first_line := T.f_Table_first_line.ok ["self"] (fun f fd F => fo_Table_first_line F T) fun _ _ _ _ _ _ us hl => match us, hl with | [_], _ => rfl
theorem sc_want_lines : FnScope ["spans", "span", "line"] ["spans"] (defScope s_want_lines) := ⟨rfl, rfl, rfl, by decide +kernel, rfl, by decide +kernel, by decide +kernel⟩
theorem fo_want_lines {f : Addr} {fd : FuncData} (F : Fun K "want_lines" "want_lines" s_want_lines f fd) (T : Txt K mg) : FnOk P w K mg base (L2.CX P w) 3 f fd ["spans"] (spI K mg 1 id m_want_lines) :=
  fn_ok (k := 2) F sc_want_lines rfl rfl fun cdv A outer s H E hr => (rss_one (rs_for (ri_seq re_var) (rg_name sc_want_lines.nd) (rss_one (rs_if (rt_isnot re_raw re_non) (rss_one (rs_for (ri_seq (re_sliceT re_raw ro_none (ro_some re_int))) (rg_name sc_want_lines.nd) (rss_one (rs_if (rt_gt re_raw (re_globI (by rfl) T.c_MOST.choose_spec)) (rss_one (rs_raise (eo_BadLine T) (hr.mono (by decide)) (by rfl) (ra_cons re_var ra_nil))) rss_nil)))) rss_nil))))
theorem do_want_lines (T : Txt K mg) : DefOk P w K mg base "want_lines" 1 3 m_want_lines := T.f_want_lines.ok ["spans"] (fun f fd F => fo_want_lines F T) fun _ _ _ _ _ _ us hl => match us, hl with | [_], _ => rfl
theorem sc_moved_span : FnScope ["span", "line", "removed", "by", "first", "last", "column", "end_column"] ["span", "line", "removed", "by"] (defScope s_moved_span) := ⟨rfl, rfl, rfl, by decide +kernel, rfl, by decide +kernel, by decide +kernel⟩
theorem fo_moved_span {f : Addr} {fd : FuncData} (F : Fun K "moved_span" "moved_span" s_moved_span f fd) (T : Txt K mg) : FnOk P w K mg base (L2.CX P w) 1 f fd ["span", "line", "removed", "by"] (spI K mg 4 id m_moved_span) :=
  fn_ok (k := 0) F sc_moved_span rfl rfl fun cdv A outer s H E hr => (rss_cons (rs_if (rt_w (rw_or (rt_is re_raw re_non) (rw_or1 (rt_w (rw_and (rt_gt re_raw re_int) (rw_and (rt_lt (re_idx re_raw re_int) (re_add re_raw re_raw)) (rw_and1 (rt_ge (re_idx re_raw re_int) re_raw)))))))) (rss_one (rs_ret re_non)) rss_nil) (rss_cons (rs_asg re_var (rg_row (rgs_cons (rg_name sc_moved_span.nd) (rgs_cons (rg_name sc_moved_span.nd) (rgs_cons (rg_name sc_moved_span.nd) (rgs_cons (rg_name sc_moved_span.nd) rgs_nil)))))) (rss_cons (rs_if (rt_ge re_raw (re_add re_raw re_raw)) (rss_one (rs_augX sc_moved_span.nd in_add ip_addI re_raw)) rss_nil) (rss_cons (rs_if (rt_ge re_raw (re_add re_raw re_raw)) (rss_one (rs_augX sc_moved_span.nd in_add ip_addI re_raw)) rss_nil) (rss_one (rs_ret (re_tup (ra_cons re_var (ra_cons re_var (ra_cons re_var (ra_cons re_var ra_nil)))))))))))
theorem do_moved_span (T : Txt K mg) : DefOk P w K mg base "moved_span" 4 1 m_moved_span := T.f_moved_span.ok ["span", "line", "removed", "by"] (fun f fd F => fo_moved_span F T) fun _ _ _ _ _ _ us hl => match us, hl with | [_, _, _, _], _ => rfl
theorem sc_Table_spans : FnScope ["self"] ["self"] (defScope s_Table_spans) := ⟨rfl, rfl, rfl, by decide +kernel, rfl, by decide +kernel, by decide +kernel⟩
theorem fo_Table_spans {f : Addr} {fd : FuncData} (F : Fun K "spans" "Table.spans" s_Table_spans f fd) (T : Txt K mg) : FnOk P w K mg base (L2.CX P w) 1 f fd ["self"] (spI K mg 1 id m_Table_spans) :=
  fn_ok (k := 0) F sc_Table_spans rfl rfl fun cdv A outer s H E hr => (rss_one (rs_ret (re_frz (rl_list (by rfl) T.n_list (re_attr (.fld T.d_Table_held_spans .nil) re_raw)))))
theorem mo_Table_spans (T : Txt K mg) : MetOk P w K mg base "Table" "spans" 0 1 m_Table_spans := T.f_Table_spans.ok ["self"] (fun f fd F => fo_Table_spans F T) fun _ _ _ _ _ _ us hl => match us, hl with | [_], _ => rfl
theorem sc_moved : FnScope ["table", "line", "removed", "added", "many", "spans", "span"] ["table", "line", "removed", "added"] (defScope s_moved) := ⟨rfl, rfl, rfl, by decide +kernel, rfl, by decide +kernel, by decide +kernel⟩
theorem fo_moved {f : Addr} {fd : FuncData} (F : Fun K "moved" "moved" s_moved f fd) (T : Txt K mg) : FnOk P w K mg base (L2.CX P w) 12 f fd ["table", "line", "removed", "added"] (spI K mg 4 id m_moved) :=
  fn_ok (k := 11) F sc_moved rfl rfl fun cdv A outer s H E hr => (rss_cons (rs_expr (re_callD (do_want_line T) (hr.mono (by decide)) (by rfl) (ra_cons re_var ra_nil))) (rss_cons (rs_for (ri_seq (re_tup (ra_cons re_var (ra_cons re_var ra_nil)))) (rg_name sc_moved.nd) (rss_one (rs_if (rt_not (rt_tst (re_callD (do_is_integer T) (hr.mono (by decide)) (by rfl) (ra_cons re_var (ra_cons re_int (ra_cons (re_globI (by rfl) T.c_MOST.choose_spec) ra_nil)))))) (rss_one (rs_raise (eo_BadCount T) (hr.mono (by decide)) (by rfl) (ra_cons re_var ra_nil))) rss_nil))) (rss_cons (rs_setLc (own := [("span", 6)]) sc_moved.nd (ri_seq (re_meth0 (.cons ((mo_Table_spans T).at_ (hr.mono (by decide))) .nil) re_raw)) (blkOk_by (own := [("span", 6)]) (N := ["table", "line", "removed", "added", "many", "spans", "span"]) (sc := defScope s_moved) (by decide +kernel)) (fun _ _ _ _ _ => (rc_name sc_moved.nd (by decide))) (fun _ _ _ _ _ => rts_nil) (fun _ _ _ _ _ => (re_callD (do_moved_span T) (hr.mono (by decide)) (by rfl) (ra_cons re_var (ra_cons re_var (ra_cons re_var (ra_cons (re_sub re_raw re_raw) ra_nil)))))) (fun _ _ _ _ q => compV_read q)) (rss_cons (rs_expr (re_callD (do_want_lines T) (hr.mono (by decide)) (by rfl) (ra_cons re_var ra_nil))) (rss_one (rs_ret (re_static (so_Table_of T) (hr.mono (by decide)) (by rfl) (ra_cons re_var (ra_cons (re_attr (.prp ((po_Table_first_line T).at_ (hr.mono (by decide))) .nil) re_raw) ra_nil)))))))))
theorem do_moved (T : Txt K mg) : DefOk P w K mg base "moved" 4 12 m_moved := T.f_moved.ok ["table", "line", "removed", "added"] (fun f fd F => fo_moved F T) fun _ _ _ _ _ _ us hl => match us, hl with | [_, _, _, _], _ => rfl
theorem sc_Table_data : FnScope ["self"] ["self"] (defScope s_Table_data) := ⟨rfl, rfl, rfl, by decide +kernel, rfl, by decide +kernel, by decide +kernel⟩
theorem fo_Table_data {f : Addr} {fd : FuncData} (F : Fun K "data" "Table.data" s_Table_data f fd) (T : Txt K mg) : FnOk P w K mg base (L2.CX P w) 1 f fd ["self"] (spI K mg 1 id m_Table_data) :=
  fn_ok (k := 0) F sc_Table_data rfl rfl fun cdv A outer s H E hr => (rss_one (rs_ret (re_attr (.fld T.d_Table_held_data .nil) re_raw)))
theorem po_Table_data (T : Txt K mg) : PropOk P w K mg base "data" "Table" 1 m_Table_data := T.f_Table_data.ok ["self"] (fun f fd F => fo_Table_data F T) fun _ _ _ _ _ _ us hl => match us, hl with | [_], _ => rfl
theorem sc__law_said : FnScope ["_law_table", "_law_line_here", "_law_removed", "_law_added", "_law_found", "e"] ["_law_table", "_law_line_here", "_law_removed", "_law_added"] (defScope s__law_said) := ⟨rfl, rfl, rfl, by decide +kernel, rfl, by decide +kernel, by decide +kernel⟩
theorem fo__law_said {f : Addr} {fd : FuncData} (F : Fun K "_law_said" "_law_said" s__law_said f fd) (T : Txt K mg) : FnOk P w K mg base (L2.CX P w) 13 f fd ["_law_table", "_law_line_here", "_law_removed", "_law_added"] (spI K mg 4 id m__law_said) :=
  fn_ok (k := 12) F sc__law_said rfl rfl fun cdv A outer s H E hr => (rss_cons (rs_try rfl rfl sc__law_said.nd (fun pn xe => (rss_one (rs_asg (re_callD (do_moved T) (hr.mono (by decide)) (by rfl) (ra_cons re_var (ra_cons re_var (ra_cons re_var (ra_cons re_var ra_nil))))) (rg_name sc__law_said.nd)))) (.named ⟨by rfl, by decide, .inl T.k_BadLine.choose_spec⟩ (Tells.cons T.k_BadTable.choose_spec (T.m_BadTable_BadLine _ _ T.k_BadTable.choose_spec T.k_BadLine.choose_spec) (Tells.cons T.k_BadLine.choose_spec (T.m_BadLine_BadLine _ _ T.k_BadLine.choose_spec T.k_BadLine.choose_spec) (Tells.cons T.k_BadSpan.choose_spec (T.m_BadSpan_BadLine _ _ T.k_BadSpan.choose_spec T.k_BadLine.choose_spec) (Tells.cons T.k_BadCount.choose_spec (T.m_BadCount_BadLine _ _ T.k_BadCount.choose_spec T.k_BadLine.choose_spec) Tells.nil)))) rfl rfl (fun a oe cls d pn c fs hz hf => (rss_one (rs_ret (re_tup (ra_cons (re_str (s := "line")) (ra_cons (re_xf T.x_BadLine_line.choose_spec.1 T.x_BadLine_line.choose_spec.2.1 T.x_BadLine_line.choose_spec.2.2 hz hf) ra_nil)))))) (.named ⟨by rfl, by decide, .inl T.k_BadCount.choose_spec⟩ (Tells.cons T.k_BadTable.choose_spec (T.m_BadTable_BadCount _ _ T.k_BadTable.choose_spec T.k_BadCount.choose_spec) (Tells.cons T.k_BadLine.choose_spec (T.m_BadLine_BadCount _ _ T.k_BadLine.choose_spec T.k_BadCount.choose_spec) (Tells.cons T.k_BadSpan.choose_spec (T.m_BadSpan_BadCount _ _ T.k_BadSpan.choose_spec T.k_BadCount.choose_spec) (Tells.cons T.k_BadCount.choose_spec (T.m_BadCount_BadCount _ _ T.k_BadCount.choose_spec T.k_BadCount.choose_spec) Tells.nil)))) rfl rfl (fun a oe cls d pn c fs hz hf => (rss_one (rs_ret (re_tup (ra_cons (re_str (s := "count")) (ra_cons (re_xf T.x_BadCount_many.choose_spec.1 T.x_BadCount_many.choose_spec.2.1 T.x_BadCount_many.choose_spec.2.2 hz hf) ra_nil)))))) .nil))) (rss_one (rs_ret (re_tup (ra_cons (re_meth0 (.cons ((mo_Table_spans T).at_ (hr.mono (by decide))) .nil) re_raw) (ra_cons (re_frz (rl_list (by rfl) T.n_list (re_attr (.prp ((po_Table_data T).at_ (hr.mono (by decide))) .nil) re_raw))) (ra_cons (re_attr (.prp ((po_Table_first_line T).at_ (hr.mono (by decide))) .nil) re_raw) ra_nil)))))))
theorem do__law_said (T : Txt K mg) : DefOk P w K mg base "_law_said" 4 13 m__law_said := T.f__law_said.ok ["_law_table", "_law_line_here", "_law_removed", "_law_added"] (fun f fd F => fo__law_said F T) fun _ _ _ _ _ _ us hl => match us, hl with | [_, _, _, _], _ => rfl
theorem sc__law_moved : FnScope ["_law_span_here", "_law_line_here", "_law_removed", "_law_added", "_law_gone", "_law_lines", "_law_k", "_law_one_here"] ["_law_span_here", "_law_line_here", "_law_removed", "_law_added"] (defScope s__law_moved) := ⟨rfl, rfl, rfl, by decide +kernel, rfl, by decide +kernel, by decide +kernel⟩
theorem fo__law_moved {f : Addr} {fd : FuncData} (F : Fun K "_law_moved" "_law_moved" s__law_moved f fd) (T : Txt K mg) : FnOk P w K mg base (L2.CX P w) 1 f fd ["_law_span_here", "_law_line_here", "_law_removed", "_law_added"] (spI K mg 4 id m__law_moved) :=
  fn_ok (k := 0) F sc__law_moved rfl rfl fun cdv A outer s H E hr => (rss_cons (rs_if (rt_is re_raw re_non) (rss_one (rs_ret re_non)) rss_nil) (rss_cons (rs_setLc (own := [("_law_k", 6)]) sc__law_moved.nd (ri_seq (re_frz (rl_lst (ra_cons re_var (ra_cons (re_idx re_raw re_int) ra_nil))))) (blkOk_by (own := [("_law_k", 6)]) (N := ["_law_span_here", "_law_line_here", "_law_removed", "_law_added", "_law_gone", "_law_lines", "_law_k", "_law_one_here"]) (sc := defScope s__law_moved) (by decide +kernel)) (fun _ _ _ _ _ => (rc_name sc__law_moved.nd (by decide))) (fun _ _ _ _ _ => (rts_one (rt_w (rw_and (rt_ch ch_le ch_le (re_idx re_raw re_int) re_raw (re_idx re_raw re_int)) (rw_and1 (rt_ch ch_le ch_lt re_raw re_raw (re_add re_raw re_raw))))))) (fun _ _ _ _ _ => re_var) (fun _ _ _ _ q => compV_read q)) (rss_cons (rs_if (rt_ne re_raw (re_frz (rl_lst ra_nil))) (rss_one (rs_ret re_non)) rss_nil) (rss_cons (rs_setLc (own := [("_law_one_here", 7)]) sc__law_moved.nd (ri_seq (re_sliceT re_raw ro_none (ro_some re_int))) (blkOk_by (own := [("_law_one_here", 7)]) (N := ["_law_span_here", "_law_line_here", "_law_removed", "_law_added", "_law_gone", "_law_lines", "_law_k", "_law_one_here"]) (sc := defScope s__law_moved) (by decide +kernel)) (fun _ _ _ _ _ => (rc_name sc__law_moved.nd (by decide))) (fun _ _ _ _ _ => rts_nil) (fun _ _ _ _ _ => (re_ifE (rt_ge re_raw (re_add re_raw re_raw)) (re_sub (re_add re_raw re_raw) re_raw) re_var)) (fun _ _ _ _ q => compV_read q)) (rss_one (rs_ret (re_tup (ra_cons (re_idx re_raw re_int) (ra_cons (re_idx re_raw re_int) (ra_cons (re_idx re_raw re_int) (ra_cons (re_idx re_raw re_int) ra_nil)))))))))))
theorem do__law_moved (T : Txt K mg) : DefOk P w K mg base "_law_moved" 4 1 m__law_moved := T.f__law_moved.ok ["_law_span_here", "_law_line_here", "_law_removed", "_law_added"] (fun f fd F => fo__law_moved F T) fun _ _ _ _ _ _ us hl => match us, hl with | [_, _, _, _], _ => rfl
theorem sc__law_due : FnScope ["_law_spans_here", "_law_first_line", "_law_line_here", "_law_removed", "_law_added", "_law_found", "_law_span_here", "_law_one_here"] ["_law_spans_here", "_law_first_line", "_law_line_here", "_law_removed", "_law_added"] (defScope s__law_due) := ⟨rfl, rfl, rfl, by decide +kernel, rfl, by decide +kernel, by decide +kernel⟩
theorem fo__law_due {f : Addr} {fd : FuncData} (F : Fun K "_law_due" "_law_due" s__law_due f fd) (T : Txt K mg) : FnOk P w K mg base (L2.CX P w) 12 f fd ["_law_spans_here", "_law_first_line", "_law_line_here", "_law_removed", "_law_added"] (spI K mg 5 id m__law_due) :=
  fn_ok (k := 11) F sc__law_due rfl rfl fun cdv A outer s H E hr => (rss_cons (rs_setLc (own := [("_law_span_here", 6)]) sc__law_due.nd (ri_seq re_var) (blkOk_by (own := [("_law_span_here", 6)]) (N := ["_law_spans_here", "_law_first_line", "_law_line_here", "_law_removed", "_law_added", "_law_found", "_law_span_here", "_law_one_here"]) (sc := defScope s__law_due) (by decide +kernel)) (fun _ _ _ _ _ => (rc_name sc__law_due.nd (by decide))) (fun _ _ _ _ _ => rts_nil) (fun _ _ _ _ _ => (re_callD (do__law_moved T) (hr.mono (by decide)) (by rfl) (ra_cons re_var (ra_cons re_var (ra_cons re_var (ra_cons re_var ra_nil)))))) (fun _ _ _ _ q => compV_read q)) (rss_cons (rs_for (ri_seq re_var) (rg_name sc__law_due.nd) (rss_one (rs_if (rt_isnot re_raw re_non) (rss_one (rs_for (ri_seq (re_sliceT re_raw ro_none (ro_some re_int))) (rg_name sc__law_due.nd) (rss_one (rs_if (rt_gt re_raw re_int) (rss_one (rs_ret (re_tup (ra_cons (re_str (s := "line")) (ra_cons re_var ra_nil))))) rss_nil)))) rss_nil))) (rss_one (rs_ret (re_tup (ra_cons re_var (ra_cons (re_frz (rl_list (by rfl) T.n_list (re_attr (.prp ((po_Table_data T).at_ (hr.mono (by decide))) .nil) (re_static (so_Table_of T) (hr.mono (by decide)) (by rfl) (ra_cons re_var (ra_cons re_var ra_nil)))))) (ra_cons re_var ra_nil))))))))
theorem do__law_due (T : Txt K mg) : DefOk P w K mg base "_law_due" 5 12 m__law_due := T.f__law_due.ok ["_law_spans_here", "_law_first_line", "_law_line_here", "_law_removed", "_law_added"] (fun f fd F => fo__law_due F T) fun _ _ _ _ _ _ us hl => match us, hl with | [_, _, _, _, _], _ => rfl
theorem sc_law : FnScope ["_law_script", "_law_cell", "_law_well_here", "_law_first_line", "_law_spans_here", "_law_table", "_law_none", "_law_odd", "_law_line_here", "_law_removed", "_law_added", "_law_k"] ["_law_script"] (defScope s_law) := ⟨rfl, rfl, rfl, by decide +kernel, rfl, by decide +kernel, by decide +kernel⟩
theorem fo_law {f : Addr} {fd : FuncData} (F : Fun K "law" "law" s_law f fd) (T : Txt K mg) : FnOk P w K mg base (L2.CX P w) 14 f fd ["_law_script"] (spI K mg 1 id m_law) :=
  fn_ok (k := 13) F sc_law rfl rfl fun cdv A outer s H E hr => (rss_cons (rs_for (ri_seq (re_add (re_slice re_raw ro_none (ro_some re_int)) (re_frz (rl_lst (ra_cons re_int ra_nil))))) (rg_name sc_law.nd) (rss_cons (rs_asg (re_callD (do__law_well T) (hr.mono (by decide)) (by rfl) (ra_cons re_var ra_nil)) (rg_name sc_law.nd)) (rss_cons (rs_asg (re_callD (do__law_line T) (hr.mono (by decide)) (by rfl) (ra_cons re_var (ra_cons (re_add re_int (re_callD (do__law_draw T) (hr.mono (by decide)) (by rfl) (ra_cons re_var (ra_cons re_int ra_nil)))) ra_nil))) (rg_name sc_law.nd)) (rss_cons (rs_asg (re_callD (do__law_spans T) (hr.mono (by decide)) (by rfl) (ra_cons re_var (ra_cons re_int ra_nil))) (rg_name sc_law.nd)) (rss_cons (rs_asg (re_static (so_Table_of T) (hr.mono (by decide)) (by rfl) (ra_cons re_var (ra_cons re_var ra_nil))) (rg_name sc_law.nd)) (rss_cons (rs_if (rt_eq (re_callD (do__law_draw T) (hr.mono (by decide)) (by rfl) (ra_cons re_var (ra_cons re_int ra_nil))) re_int) (rss_one (rs_asg (re_newD (io_Table T) (hr.mono (by decide)) (by rfl) (ra_cons (re_callD (do__law_written T) (hr.mono (by decide)) (by rfl) (ra_cons re_var (ra_cons re_var (ra_cons re_var ra_nil)))) (ra_cons re_var ra_nil))) (rg_name sc_law.nd))) rss_nil) (rss_cons (rs_for (ri_seq (re_add (re_compV (own := [("_law_k", 11)]) sc_law.nd (ri_range1 (by rfl) T.n_range re_int) (blkOk_by (own := [("_law_k", 11)]) (N := ["_law_script", "_law_cell", "_law_well_here", "_law_first_line", "_law_spans_here", "_law_table", "_law_none", "_law_odd", "_law_line_here", "_law_removed", "_law_added", "_law_k"]) (sc := defScope s_law) (by decide +kernel)) (fun _ _ _ _ _ => (rc_name sc_law.nd (by decide))) (fun _ _ _ _ _ => rts_nil) (fun _ _ _ _ _ => (re_callD (do__law_edit T) (hr.mono (by decide)) (by rfl) (ra_cons re_var (ra_cons re_var ra_nil))))) (re_callD (do__law_idle T) (hr.mono (by decide)) (by rfl) (ra_cons re_var (ra_cons re_var ra_nil))))) (rg_row (rgs_cons (rg_name sc_law.nd) (rgs_cons (rg_name sc_law.nd) (rgs_cons (rg_name sc_law.nd) rgs_nil)))) (rss_one (rs_if (rt_ne (re_callD (do__law_said T) (hr.mono (by decide)) (by rfl) (ra_cons re_var (ra_cons re_var (ra_cons re_var (ra_cons re_var ra_nil))))) (re_callD (do__law_due T) (hr.mono (by decide)) (by rfl) (ra_cons re_var (ra_cons re_var (ra_cons re_var (ra_cons re_var (ra_cons re_var ra_nil))))))) (rss_one (rs_ret re_bl)) rss_nil))) (rss_cons (rs_asg (re_callD (do__law_one T) (hr.mono (by decide)) (by rfl) (ra_cons re_var (ra_cons (re_frz (rl_lst (ra_cons re_int (ra_cons (re_neg re_int) (ra_cons re_int (ra_cons re_non (ra_cons re_bl (ra_cons (re_str (s := "1")) (ra_cons (re_frz (rl_lst ra_nil)) ra_nil))))))))) ra_nil))) (rg_name sc_law.nd)) (rss_cons (rs_asg (re_callD (do__law_one T) (hr.mono (by decide)) (by rfl) (ra_cons re_var (ra_cons (re_frz (rl_lst (ra_cons (re_neg re_int) (ra_cons re_int (ra_cons re_non (ra_cons re_bl (ra_cons (re_str (s := "1")) (ra_cons re_edi ra_nil)))))))) ra_nil))) (rg_name sc_law.nd)) (rss_cons (rs_if (rt_w (rw_or (rt_ne (re_callD (do__law_said T) (hr.mono (by decide)) (by rfl) (ra_cons re_var (ra_cons re_var (ra_cons re_var (ra_cons re_var ra_nil))))) (re_tup (ra_cons (re_str (s := "line")) (ra_cons re_var ra_nil)))) (rw_or1 (rt_ne (re_callD (do__law_said T) (hr.mono (by decide)) (by rfl) (ra_cons re_var (ra_cons re_int (ra_cons re_var (ra_cons re_var ra_nil))))) (re_tup (ra_cons (re_str (s := "count")) (ra_cons re_var ra_nil))))))) (rss_one (rs_ret re_bl)) rss_nil) (rss_one (rs_if (rt_w (rw_or (rt_ne (re_callD (do__law_said T) (hr.mono (by decide)) (by rfl) (ra_cons re_var (ra_cons re_int (ra_cons re_int (ra_cons re_var ra_nil))))) (re_tup (ra_cons (re_str (s := "count")) (ra_cons re_var ra_nil)))) (rw_or1 (rt_ne (re_meth0 (.cons ((mo_Table_spans T).at_ (hr.mono (by decide))) .nil) re_raw) re_raw)))) (rss_one (rs_ret re_bl)) rss_nil)))))))))))) (rss_one (rs_ret re_bl)))
theorem do_law (T : Txt K mg) : DefOk P w K mg base "law" 1 14 m_law := T.f_law.ok ["_law_script"] (fun f fd F => fo_law F T) fun _ _ _ _ _ _ us hl => match us, hl with | [_], _ => rfl
end
/-- what the top has written -/
theorem all_mk {P : Program} {w : World} {K : PySem.W.Frag} {h : Heap} {mg : Str → Option Value} {fa : Addr} (X : K.In h) (G : h.Ns mainGlobals mg) (hfa : mg "law" = some (.ref fa))
    {A_BadTable : Addr}
    (g_BadTable : PySem.W.nsIn K mainGlobals "BadTable" = some (some (.ref A_BadTable)))
    {A_BadLine : Addr}
    (g_BadLine : PySem.W.nsIn K mainGlobals "BadLine" = some (some (.ref A_BadLine)))
    {A_BadSpan : Addr}
    (g_BadSpan : PySem.W.nsIn K mainGlobals "BadSpan" = some (some (.ref A_BadSpan)))
    {A_BadCount : Addr}
    (g_BadCount : PySem.W.nsIn K mainGlobals "BadCount" = some (some (.ref A_BadCount)))
    {A_Cursor : Addr}
    (g_Cursor : PySem.W.nsIn K mainGlobals "Cursor" = some (some (.ref A_Cursor)))
    {A_Entry : Addr}
    (g_Entry : PySem.W.nsIn K mainGlobals "Entry" = some (some (.ref A_Entry)))
    {A_Table : Addr}
    (g_Table : PySem.W.nsIn K mainGlobals "Table" = some (some (.ref A_Table)))
    {f0 : Addr} {oc0 kV0 dc0 pm0 cd0 ct0 : Value} {od0 an0 : Option Addr} {sl0 : Array (Option Value)}
    (a0 : PySem.W.nsIn K mainGlobals "_law_well" = some (some (.ref f0)))
    (l0 : K.lookup f0 = some ⟨oc0, od0, .func (PySem.W.fnOf "_law_well" "_law_well" (defArgs s__law_well) (defBody s__law_well) (defScope s__law_well) .none kV0 dc0 pm0 an0 cd0 ct0), sl0⟩)
    (c0 : PySem.W.codeIn K cd0 "_law_well" = true)
    (k0 : PySem.W.keepIn K (.ref f0) = true)
    {f1 : Addr} {oc1 kV1 dc1 pm1 cd1 ct1 : Value} {od1 an1 : Option Addr} {sl1 : Array (Option Value)}
    (a1 : PySem.W.nsIn K mainGlobals "_law_draw" = some (some (.ref f1)))
    (l1 : K.lookup f1 = some ⟨oc1, od1, .func (PySem.W.fnOf "_law_draw" "_law_draw" (defArgs s__law_draw) (defBody s__law_draw) (defScope s__law_draw) .none kV1 dc1 pm1 an1 cd1 ct1), sl1⟩)
    (c1 : PySem.W.codeIn K cd1 "_law_draw" = true)
    (k1 : PySem.W.keepIn K (.ref f1) = true)
    {f2 : Addr} {oc2 kV2 dc2 pm2 cd2 ct2 : Value} {od2 an2 : Option Addr} {sl2 : Array (Option Value)}
    (a2 : PySem.W.nsIn K mainGlobals "_law_one" = some (some (.ref f2)))
    (l2 : K.lookup f2 = some ⟨oc2, od2, .func (PySem.W.fnOf "_law_one" "_law_one" (defArgs s__law_one) (defBody s__law_one) (defScope s__law_one) .none kV2 dc2 pm2 an2 cd2 ct2), sl2⟩)
    (c2 : PySem.W.codeIn K cd2 "_law_one" = true)
    (k2 : PySem.W.keepIn K (.ref f2) = true)
    {f3 : Addr} {oc3 kV3 dc3 pm3 cd3 ct3 : Value} {od3 an3 : Option Addr} {sl3 : Array (Option Value)}
    (a3 : PySem.W.nsIn K mainGlobals "_law_line" = some (some (.ref f3)))
    (l3 : K.lookup f3 = some ⟨oc3, od3, .func (PySem.W.fnOf "_law_line" "_law_line" (defArgs s__law_line) (defBody s__law_line) (defScope s__law_line) .none kV3 dc3 pm3 an3 cd3 ct3), sl3⟩)
    (c3 : PySem.W.codeIn K cd3 "_law_line" = true)
    (k3 : PySem.W.keepIn K (.ref f3) = true)
    {f4 : Addr} {oc4 kV4 dc4 pm4 cd4 ct4 : Value} {od4 an4 : Option Addr} {sl4 : Array (Option Value)}
    (a4 : PySem.W.nsIn K mainGlobals "_law_column" = some (some (.ref f4)))
    (l4 : K.lookup f4 = some ⟨oc4, od4, .func (PySem.W.fnOf "_law_column" "_law_column" (defArgs s__law_column) (defBody s__law_column) (defScope s__law_column) .none kV4 dc4 pm4 an4 cd4 ct4), sl4⟩)
    (c4 : PySem.W.codeIn K cd4 "_law_column" = true)
    (k4 : PySem.W.keepIn K (.ref f4) = true)
    {f5 : Addr} {oc5 kV5 dc5 pm5 cd5 ct5 : Value} {od5 an5 : Option Addr} {sl5 : Array (Option Value)}
    (a5 : PySem.W.nsIn K mainGlobals "_law_span" = some (some (.ref f5)))
    (l5 : K.lookup f5 = some ⟨oc5, od5, .func (PySem.W.fnOf "_law_span" "_law_span" (defArgs s__law_span) (defBody s__law_span) (defScope s__law_span) .none kV5 dc5 pm5 an5 cd5 ct5), sl5⟩)
    (c5 : PySem.W.codeIn K cd5 "_law_span" = true)
    (k5 : PySem.W.keepIn K (.ref f5) = true)
    {f6 : Addr} {oc6 kV6 dc6 pm6 cd6 ct6 : Value} {od6 an6 : Option Addr} {sl6 : Array (Option Value)}
    (a6 : PySem.W.nsIn K mainGlobals "_law_spans" = some (some (.ref f6)))
    (l6 : K.lookup f6 = some ⟨oc6, od6, .func (PySem.W.fnOf "_law_spans" "_law_spans" (defArgs s__law_spans) (defBody s__law_spans) (defScope s__law_spans) .none kV6 dc6 pm6 an6 cd6 ct6), sl6⟩)
    (c6 : PySem.W.codeIn K cd6 "_law_spans" = true)
    (k6 : PySem.W.keepIn K (.ref f6) = true)
    {f7 : Addr} {oc7 kV7 dc7 pm7 cd7 ct7 : Value} {od7 an7 : Option Addr} {sl7 : Array (Option Value)}
    (a7 : PySem.W.nsIn K mainGlobals "is_integer" = some (some (.ref f7)))
    (l7 : K.lookup f7 = some ⟨oc7, od7, .func (PySem.W.fnOf "is_integer" "is_integer" (defArgs s_is_integer) (defBody s_is_integer) (defScope s_is_integer) .none kV7 dc7 pm7 an7 cd7 ct7), sl7⟩)
    (c7 : PySem.W.codeIn K cd7 "is_integer" = true)
    (k7 : PySem.W.keepIn K (.ref f7) = true)
    {f8 : Addr} {oc8 kV8 dc8 pm8 cd8 ct8 : Value} {od8 an8 : Option Addr} {sl8 : Array (Option Value)}
    (a8 : PySem.W.nsIn K mainGlobals "want_line" = some (some (.ref f8)))
    (l8 : K.lookup f8 = some ⟨oc8, od8, .func (PySem.W.fnOf "want_line" "want_line" (defArgs s_want_line) (defBody s_want_line) (defScope s_want_line) .none kV8 dc8 pm8 an8 cd8 ct8), sl8⟩)
    (c8 : PySem.W.codeIn K cd8 "want_line" = true)
    (k8 : PySem.W.keepIn K (.ref f8) = true)
    (n_Cursor_source : PySem.W.findIn K (.ref A_Cursor) "source" = some none)
    (pg_Cursor : PySem.W.plainGet K A_Cursor Str.empty = true)
    (hd_Cursor : PySem.W.hasDictIn K A_Cursor = true)
    (po_Cursor : PySem.W.plainOver K A_Cursor = true)
    (sa_Cursor : PySem.W.findIn K (.ref A_Cursor) "__setattr__" = some (some (.builtin "object.__setattr__")))
    (n_Cursor_at : PySem.W.findIn K (.ref A_Cursor) "at" = some none)
    {f9 : Addr} {oc9 kV9 dc9 pm9 cd9 ct9 : Value} {od9 an9 : Option Addr} {sl9 : Array (Option Value)}
    (a9 : PySem.W.findIn K (.ref A_Cursor) "__init__" = some (some (.ref f9)))
    (i9 : PySem.W.isFn K (.ref f9) = true)
    (mk9 : PySem.W.makesIn K A_Cursor = true)
    (kc9 : PySem.W.keepIn K (.ref A_Cursor) = true)
    (l9 : K.lookup f9 = some ⟨oc9, od9, .func (PySem.W.fnOf "__init__" "Cursor.__init__" (defArgs s_Cursor___init__) (defBody s_Cursor___init__) (defScope s_Cursor___init__) .none kV9 dc9 pm9 an9 cd9 ct9), sl9⟩)
    (c9 : PySem.W.codeIn K cd9 "Cursor.__init__" = true)
    (k9 : PySem.W.keepIn K (.ref f9) = true)
    (n_Entry_at : PySem.W.findIn K (.ref A_Entry) "at" = some none)
    (pg_Entry : PySem.W.plainGet K A_Entry Str.empty = true)
    (hd_Entry : PySem.W.hasDictIn K A_Entry = true)
    (po_Entry : PySem.W.plainOver K A_Entry = true)
    (sa_Entry : PySem.W.findIn K (.ref A_Entry) "__setattr__" = some (some (.builtin "object.__setattr__")))
    (n_Entry_steps : PySem.W.findIn K (.ref A_Entry) "steps" = some none)
    (n_Entry_form : PySem.W.findIn K (.ref A_Entry) "form" = some none)
    (n_Entry_span : PySem.W.findIn K (.ref A_Entry) "span" = some none)
    (n_Entry_end : PySem.W.findIn K (.ref A_Entry) "end" = some none)
    {f10 : Addr} {oc10 kV10 dc10 pm10 cd10 ct10 : Value} {od10 an10 : Option Addr} {sl10 : Array (Option Value)}
    (a10 : PySem.W.findIn K (.ref A_Entry) "__init__" = some (some (.ref f10)))
    (i10 : PySem.W.isFn K (.ref f10) = true)
    (mk10 : PySem.W.makesIn K A_Entry = true)
    (kc10 : PySem.W.keepIn K (.ref A_Entry) = true)
    (l10 : K.lookup f10 = some ⟨oc10, od10, .func (PySem.W.fnOf "__init__" "Entry.__init__" (defArgs s_Entry___init__) (defBody s_Entry___init__) (defScope s_Entry___init__) .none kV10 dc10 pm10 an10 cd10 ct10), sl10⟩)
    (c10 : PySem.W.codeIn K cd10 "Entry.__init__" = true)
    (k10 : PySem.W.keepIn K (.ref f10) = true)
    {f11 : Addr} {oc11 kV11 dc11 pm11 cd11 ct11 : Value} {od11 an11 : Option Addr} {sl11 : Array (Option Value)}
    (a11 : PySem.W.findIn K (.ref A_Cursor) "next_byte" = some (some (.ref f11)))
    (i11 : PySem.W.isFn K (.ref f11) = true)
    (l11 : K.lookup f11 = some ⟨oc11, od11, .func (PySem.W.fnOf "next_byte" "Cursor.next_byte" (defArgs s_Cursor_next_byte) (defBody s_Cursor_next_byte) (defScope s_Cursor_next_byte) .none kV11 dc11 pm11 an11 cd11 ct11), sl11⟩)
    (c11 : PySem.W.codeIn K cd11 "Cursor.next_byte" = true)
    (k11 : PySem.W.keepIn K (.ref f11) = true)
    {f12 : Addr} {oc12 kV12 dc12 pm12 cd12 ct12 : Value} {od12 an12 : Option Addr} {sl12 : Array (Option Value)}
    (a12 : PySem.W.findIn K (.ref A_Cursor) "number" = some (some (.ref f12)))
    (i12 : PySem.W.isFn K (.ref f12) = true)
    (l12 : K.lookup f12 = some ⟨oc12, od12, .func (PySem.W.fnOf "number" "Cursor.number" (defArgs s_Cursor_number) (defBody s_Cursor_number) (defScope s_Cursor_number) .none kV12 dc12 pm12 an12 cd12 ct12), sl12⟩)
    (c12 : PySem.W.codeIn K cd12 "Cursor.number" = true)
    (k12 : PySem.W.keepIn K (.ref f12) = true)
    {f13 : Addr} {oc13 kV13 dc13 pm13 cd13 ct13 : Value} {od13 an13 : Option Addr} {sl13 : Array (Option Value)}
    (a13 : PySem.W.findIn K (.ref A_Cursor) "signed" = some (some (.ref f13)))
    (i13 : PySem.W.isFn K (.ref f13) = true)
    (l13 : K.lookup f13 = some ⟨oc13, od13, .func (PySem.W.fnOf "signed" "Cursor.signed" (defArgs s_Cursor_signed) (defBody s_Cursor_signed) (defScope s_Cursor_signed) .none kV13 dc13 pm13 an13 cd13 ct13), sl13⟩)
    (c13 : PySem.W.codeIn K cd13 "Cursor.signed" = true)
    (k13 : PySem.W.keepIn K (.ref f13) = true)
    {f14 : Addr} {oc14 kV14 dc14 pm14 cd14 ct14 : Value} {od14 an14 : Option Addr} {sl14 : Array (Option Value)}
    (a14 : PySem.W.nsIn K mainGlobals "maybe_column" = some (some (.ref f14)))
    (l14 : K.lookup f14 = some ⟨oc14, od14, .func (PySem.W.fnOf "maybe_column" "maybe_column" (defArgs s_maybe_column) (defBody s_maybe_column) (defScope s_maybe_column) .none kV14 dc14 pm14 an14 cd14 ct14), sl14⟩)
    (c14 : PySem.W.codeIn K cd14 "maybe_column" = true)
    (k14 : PySem.W.keepIn K (.ref f14) = true)
    {f15 : Addr} {oc15 kV15 dc15 pm15 cd15 ct15 : Value} {od15 an15 : Option Addr} {sl15 : Array (Option Value)}
    (a15 : PySem.W.nsIn K mainGlobals "raw_span" = some (some (.ref f15)))
    (l15 : K.lookup f15 = some ⟨oc15, od15, .func (PySem.W.fnOf "raw_span" "raw_span" (defArgs s_raw_span) (defBody s_raw_span) (defScope s_raw_span) .none kV15 dc15 pm15 an15 cd15 ct15), sl15⟩)
    (c15 : PySem.W.codeIn K cd15 "raw_span" = true)
    (k15 : PySem.W.keepIn K (.ref f15) = true)
    {f16 : Addr} {oc16 kV16 dc16 pm16 cd16 ct16 : Value} {od16 an16 : Option Addr} {sl16 : Array (Option Value)}
    (a16 : PySem.W.nsIn K mainGlobals "is_ordered" = some (some (.ref f16)))
    (l16 : K.lookup f16 = some ⟨oc16, od16, .func (PySem.W.fnOf "is_ordered" "is_ordered" (defArgs s_is_ordered) (defBody s_is_ordered) (defScope s_is_ordered) .none kV16 dc16 pm16 an16 cd16 ct16), sl16⟩)
    (c16 : PySem.W.codeIn K cd16 "is_ordered" = true)
    (k16 : PySem.W.keepIn K (.ref f16) = true)
    {f17 : Addr} {oc17 kV17 dc17 pm17 cd17 ct17 : Value} {od17 an17 : Option Addr} {sl17 : Array (Option Value)}
    (a17 : PySem.W.nsIn K mainGlobals "read_entry" = some (some (.ref f17)))
    (l17 : K.lookup f17 = some ⟨oc17, od17, .func (PySem.W.fnOf "read_entry" "read_entry" (defArgs s_read_entry) (defBody s_read_entry) (defScope s_read_entry) .none kV17 dc17 pm17 an17 cd17 ct17), sl17⟩)
    (c17 : PySem.W.codeIn K cd17 "read_entry" = true)
    (k17 : PySem.W.keepIn K (.ref f17) = true)
    {f18 : Addr} {oc18 kV18 dc18 pm18 cd18 ct18 : Value} {od18 an18 : Option Addr} {sl18 : Array (Option Value)}
    (a18 : PySem.W.nsIn K mainGlobals "read_entries" = some (some (.ref f18)))
    (l18 : K.lookup f18 = some ⟨oc18, od18, .func (PySem.W.fnOf "read_entries" "read_entries" (defArgs s_read_entries) (defBody s_read_entries) (defScope s_read_entries) .none kV18 dc18 pm18 an18 cd18 ct18), sl18⟩)
    (c18 : PySem.W.codeIn K cd18 "read_entries" = true)
    (k18 : PySem.W.keepIn K (.ref f18) = true)
    {f19 : Addr} {oc19 kV19 dc19 pm19 cd19 ct19 : Value} {od19 an19 : Option Addr} {sl19 : Array (Option Value)}
    (a19 : PySem.W.nsIn K mainGlobals "is_byte_data" = some (some (.ref f19)))
    (l19 : K.lookup f19 = some ⟨oc19, od19, .func (PySem.W.fnOf "is_byte_data" "is_byte_data" (defArgs s_is_byte_data) (defBody s_is_byte_data) (defScope s_is_byte_data) .none kV19 dc19 pm19 an19 cd19 ct19), sl19⟩)
    (c19 : PySem.W.codeIn K cd19 "is_byte_data" = true)
    (k19 : PySem.W.keepIn K (.ref f19) = true)
    (n_Table_held_data : PySem.W.findIn K (.ref A_Table) "held_data" = some none)
    (pg_Table : PySem.W.plainGet K A_Table Str.empty = true)
    (hd_Table : PySem.W.hasDictIn K A_Table = true)
    (po_Table : PySem.W.plainOver K A_Table = true)
    (sa_Table : PySem.W.findIn K (.ref A_Table) "__setattr__" = some (some (.builtin "object.__setattr__")))
    (n_Table_held_line : PySem.W.findIn K (.ref A_Table) "held_line" = some none)
    (n_Table_read : PySem.W.findIn K (.ref A_Table) "read" = some none)
    (n_Table_held_spans : PySem.W.findIn K (.ref A_Table) "held_spans" = some none)
    {f20 : Addr} {oc20 kV20 dc20 pm20 cd20 ct20 : Value} {od20 an20 : Option Addr} {sl20 : Array (Option Value)}
    (a20 : PySem.W.findIn K (.ref A_Table) "__init__" = some (some (.ref f20)))
    (i20 : PySem.W.isFn K (.ref f20) = true)
    (mk20 : PySem.W.makesIn K A_Table = true)
    (kc20 : PySem.W.keepIn K (.ref A_Table) = true)
    (l20 : K.lookup f20 = some ⟨oc20, od20, .func (PySem.W.fnOf "__init__" "Table.__init__" (defArgs s_Table___init__) (defBody s_Table___init__) (defScope s_Table___init__) .none kV20 dc20 pm20 an20 cd20 ct20), sl20⟩)
    (c20 : PySem.W.codeIn K cd20 "Table.__init__" = true)
    (k20 : PySem.W.keepIn K (.ref f20) = true)
    {f21 : Addr} {oc21 kV21 dc21 pm21 cd21 ct21 : Value} {od21 an21 : Option Addr} {sl21 : Array (Option Value)}
    (a21 : PySem.W.nsIn K mainGlobals "is_span" = some (some (.ref f21)))
    (l21 : K.lookup f21 = some ⟨oc21, od21, .func (PySem.W.fnOf "is_span" "is_span" (defArgs s_is_span) (defBody s_is_span) (defScope s_is_span) .none kV21 dc21 pm21 an21 cd21 ct21), sl21⟩)
    (c21 : PySem.W.codeIn K cd21 "is_span" = true)
    (k21 : PySem.W.keepIn K (.ref f21) = true)
    {f22 : Addr} {oc22 kV22 dc22 pm22 cd22 ct22 : Value} {od22 an22 : Option Addr} {sl22 : Array (Option Value)}
    (a22 : PySem.W.nsIn K mainGlobals "want_spans" = some (some (.ref f22)))
    (l22 : K.lookup f22 = some ⟨oc22, od22, .func (PySem.W.fnOf "want_spans" "want_spans" (defArgs s_want_spans) (defBody s_want_spans) (defScope s_want_spans) .none kV22 dc22 pm22 an22 cd22 ct22), sl22⟩)
    (c22 : PySem.W.codeIn K cd22 "want_spans" = true)
    (k22 : PySem.W.keepIn K (.ref f22) = true)
    {f23 : Addr} {oc23 kV23 dc23 pm23 cd23 ct23 : Value} {od23 an23 : Option Addr} {sl23 : Array (Option Value)}
    (a23 : PySem.W.nsIn K mainGlobals "runs_of" = some (some (.ref f23)))
    (l23 : K.lookup f23 = some ⟨oc23, od23, .func (PySem.W.fnOf "runs_of" "runs_of" (defArgs s_runs_of) (defBody s_runs_of) (defScope s_runs_of) .none kV23 dc23 pm23 an23 cd23 ct23), sl23⟩)
    (c23 : PySem.W.codeIn K cd23 "runs_of" = true)
    (k23 : PySem.W.keepIn K (.ref f23) = true)
    {f24 : Addr} {oc24 kV24 dc24 pm24 cd24 ct24 : Value} {od24 an24 : Option Addr} {sl24 : Array (Option Value)}
    (a24 : PySem.W.nsIn K mainGlobals "groups_of" = some (some (.ref f24)))
    (l24 : K.lookup f24 = some ⟨oc24, od24, .func (PySem.W.fnOf "groups_of" "groups_of" (defArgs s_groups_of) (defBody s_groups_of) (defScope s_groups_of) .none kV24 dc24 pm24 an24 cd24 ct24), sl24⟩)
    (c24 : PySem.W.codeIn K cd24 "groups_of" = true)
    (k24 : PySem.W.keepIn K (.ref f24) = true)
    {f25 : Addr} {oc25 kV25 dc25 pm25 cd25 ct25 : Value} {od25 an25 : Option Addr} {sl25 : Array (Option Value)}
    (a25 : PySem.W.nsIn K mainGlobals "folded" = some (some (.ref f25)))
    (l25 : K.lookup f25 = some ⟨oc25, od25, .func (PySem.W.fnOf "folded" "folded" (defArgs s_folded) (defBody s_folded) (defScope s_folded) .none kV25 dc25 pm25 an25 cd25 ct25), sl25⟩)
    (c25 : PySem.W.codeIn K cd25 "folded" = true)
    (k25 : PySem.W.keepIn K (.ref f25) = true)
    {f26 : Addr} {oc26 kV26 dc26 pm26 cd26 ct26 : Value} {od26 an26 : Option Addr} {sl26 : Array (Option Value)}
    (a26 : PySem.W.nsIn K mainGlobals "body_of" = some (some (.ref f26)))
    (l26 : K.lookup f26 = some ⟨oc26, od26, .func (PySem.W.fnOf "body_of" "body_of" (defArgs s_body_of) (defBody s_body_of) (defScope s_body_of) .none kV26 dc26 pm26 an26 cd26 ct26), sl26⟩)
    (c26 : PySem.W.codeIn K cd26 "body_of" = true)
    (k26 : PySem.W.keepIn K (.ref f26) = true)
    {f27 : Addr} {oc27 kV27 dc27 pm27 cd27 ct27 : Value} {od27 an27 : Option Addr} {sl27 : Array (Option Value)}
    (a27 : PySem.W.nsIn K mainGlobals "write_run" = some (some (.ref f27)))
    (l27 : K.lookup f27 = some ⟨oc27, od27, .func (PySem.W.fnOf "write_run" "write_run" (defArgs s_write_run) (defBody s_write_run) (defScope s_write_run) .none kV27 dc27 pm27 an27 cd27 ct27), sl27⟩)
    (c27 : PySem.W.codeIn K cd27 "write_run" = true)
    (k27 : PySem.W.keepIn K (.ref f27) = true)
    {f28 : Addr} {oc28 kV28 dc28 pm28 cd28 ct28 : Value} {od28 an28 : Option Addr} {sl28 : Array (Option Value)}
    (a28 : PySem.W.nsIn K mainGlobals "write_spans" = some (some (.ref f28)))
    (l28 : K.lookup f28 = some ⟨oc28, od28, .func (PySem.W.fnOf "write_spans" "write_spans" (defArgs s_write_spans) (defBody s_write_spans) (defScope s_write_spans) .none kV28 dc28 pm28 an28 cd28 ct28), sl28⟩)
    (c28 : PySem.W.codeIn K cd28 "write_spans" = true)
    (k28 : PySem.W.keepIn K (.ref f28) = true)
    {f29 : Addr} {oc29 kV29 dc29 pm29 cd29 ct29 : Value} {od29 an29 : Option Addr} {sl29 : Array (Option Value)}
    {p29 : Addr} {rest29 : List Value}
    (rd29 : PySem.W.readsIn K A_Table (.type "type") = true)
    (ga29 : PySem.W.specialIn K (.ref A_Table) "__getattribute__" = some (some (.builtin "type.__getattribute__")))
    (fc29 : PySem.W.findCls K (.ref A_Table) (.type "type") "of" = some (.get (.builtin "staticmethod.__get__") (.ref p29) .none (.ref A_Table)))
    (rc29 : PySem.W.recIn K p29 "staticmethod" = some (.ref f29 :: rest29))
    (l29 : K.lookup f29 = some ⟨oc29, od29, .func (PySem.W.fnOf "of" "Table.of" (defArgs s_Table_of) (defBody s_Table_of) (defScope s_Table_of) .none kV29 dc29 pm29 an29 cd29 ct29), sl29⟩)
    (c29 : PySem.W.codeIn K cd29 "Table.of" = true)
    (k29 : PySem.W.keepIn K (.ref f29) = true)
    {f30 : Addr} {oc30 kV30 dc30 pm30 cd30 ct30 : Value} {od30 an30 : Option Addr} {sl30 : Array (Option Value)}
    (a30 : PySem.W.nsIn K mainGlobals "_law_idle" = some (some (.ref f30)))
    (l30 : K.lookup f30 = some ⟨oc30, od30, .func (PySem.W.fnOf "_law_idle" "_law_idle" (defArgs s__law_idle) (defBody s__law_idle) (defScope s__law_idle) .none kV30 dc30 pm30 an30 cd30 ct30), sl30⟩)
    (c30 : PySem.W.codeIn K cd30 "_law_idle" = true)
    (k30 : PySem.W.keepIn K (.ref f30) = true)
    {f31 : Addr} {oc31 kV31 dc31 pm31 cd31 ct31 : Value} {od31 an31 : Option Addr} {sl31 : Array (Option Value)}
    (a31 : PySem.W.nsIn K mainGlobals "_law_groups" = some (some (.ref f31)))
    (l31 : K.lookup f31 = some ⟨oc31, od31, .func (PySem.W.fnOf "_law_groups" "_law_groups" (defArgs s__law_groups) (defBody s__law_groups) (defScope s__law_groups) .none kV31 dc31 pm31 an31 cd31 ct31), sl31⟩)
    (c31 : PySem.W.codeIn K cd31 "_law_groups" = true)
    (k31 : PySem.W.keepIn K (.ref f31) = true)
    {f32 : Addr} {oc32 kV32 dc32 pm32 cd32 ct32 : Value} {od32 an32 : Option Addr} {sl32 : Array (Option Value)}
    (a32 : PySem.W.nsIn K mainGlobals "_law_padded" = some (some (.ref f32)))
    (l32 : K.lookup f32 = some ⟨oc32, od32, .func (PySem.W.fnOf "_law_padded" "_law_padded" (defArgs s__law_padded) (defBody s__law_padded) (defScope s__law_padded) .none kV32 dc32 pm32 an32 cd32 ct32), sl32⟩)
    (c32 : PySem.W.codeIn K cd32 "_law_padded" = true)
    (k32 : PySem.W.keepIn K (.ref f32) = true)
    {f33 : Addr} {oc33 kV33 dc33 pm33 cd33 ct33 : Value} {od33 an33 : Option Addr} {sl33 : Array (Option Value)}
    (a33 : PySem.W.nsIn K mainGlobals "_law_folded" = some (some (.ref f33)))
    (l33 : K.lookup f33 = some ⟨oc33, od33, .func (PySem.W.fnOf "_law_folded" "_law_folded" (defArgs s__law_folded) (defBody s__law_folded) (defScope s__law_folded) .none kV33 dc33 pm33 an33 cd33 ct33), sl33⟩)
    (c33 : PySem.W.codeIn K cd33 "_law_folded" = true)
    (k33 : PySem.W.keepIn K (.ref f33) = true)
    {f34 : Addr} {oc34 kV34 dc34 pm34 cd34 ct34 : Value} {od34 an34 : Option Addr} {sl34 : Array (Option Value)}
    (a34 : PySem.W.nsIn K mainGlobals "_law_column_number" = some (some (.ref f34)))
    (l34 : K.lookup f34 = some ⟨oc34, od34, .func (PySem.W.fnOf "_law_column_number" "_law_column_number" (defArgs s__law_column_number) (defBody s__law_column_number) (defScope s__law_column_number) .none kV34 dc34 pm34 an34 cd34 ct34), sl34⟩)
    (c34 : PySem.W.codeIn K cd34 "_law_column_number" = true)
    (k34 : PySem.W.keepIn K (.ref f34) = true)
    {f35 : Addr} {oc35 kV35 dc35 pm35 cd35 ct35 : Value} {od35 an35 : Option Addr} {sl35 : Array (Option Value)}
    (a35 : PySem.W.nsIn K mainGlobals "_law_loose_entry" = some (some (.ref f35)))
    (l35 : K.lookup f35 = some ⟨oc35, od35, .func (PySem.W.fnOf "_law_loose_entry" "_law_loose_entry" (defArgs s__law_loose_entry) (defBody s__law_loose_entry) (defScope s__law_loose_entry) .none kV35 dc35 pm35 an35 cd35 ct35), sl35⟩)
    (c35 : PySem.W.codeIn K cd35 "_law_loose_entry" = true)
    (k35 : PySem.W.keepIn K (.ref f35) = true)
    {f36 : Addr} {oc36 kV36 dc36 pm36 cd36 ct36 : Value} {od36 an36 : Option Addr} {sl36 : Array (Option Value)}
    (a36 : PySem.W.nsIn K mainGlobals "_law_written" = some (some (.ref f36)))
    (l36 : K.lookup f36 = some ⟨oc36, od36, .func (PySem.W.fnOf "_law_written" "_law_written" (defArgs s__law_written) (defBody s__law_written) (defScope s__law_written) .none kV36 dc36 pm36 an36 cd36 ct36), sl36⟩)
    (c36 : PySem.W.codeIn K cd36 "_law_written" = true)
    (k36 : PySem.W.keepIn K (.ref f36) = true)
    {f37 : Addr} {oc37 kV37 dc37 pm37 cd37 ct37 : Value} {od37 an37 : Option Addr} {sl37 : Array (Option Value)}
    (a37 : PySem.W.nsIn K mainGlobals "_law_edit" = some (some (.ref f37)))
    (l37 : K.lookup f37 = some ⟨oc37, od37, .func (PySem.W.fnOf "_law_edit" "_law_edit" (defArgs s__law_edit) (defBody s__law_edit) (defScope s__law_edit) .none kV37 dc37 pm37 an37 cd37 ct37), sl37⟩)
    (c37 : PySem.W.codeIn K cd37 "_law_edit" = true)
    (k37 : PySem.W.keepIn K (.ref f37) = true)
    {f38 : Addr} {oc38 kV38 dc38 pm38 cd38 ct38 : Value} {od38 an38 : Option Addr} {sl38 : Array (Option Value)}
    {p38 : Addr} {rest38 : List Value}
    (a38 : PySem.W.findIn K (.ref A_Table) "first_line" = some (some (.ref p38)))
    (gt38 : PySem.W.specialIn K (.ref p38) "__get__" = some (some (.builtin "property.__get__")))
    (tk38 : PySem.W.takesIn K (.ref p38) = some true)
    (rc38 : PySem.W.recIn K p38 "property" = some (.ref f38 :: rest38))
    (l38 : K.lookup f38 = some ⟨oc38, od38, .func (PySem.W.fnOf "first_line" "Table.first_line" (defArgs s_Table_first_line) (defBody s_Table_first_line) (defScope s_Table_first_line) .none kV38 dc38 pm38 an38 cd38 ct38), sl38⟩)
    (c38 : PySem.W.codeIn K cd38 "Table.first_line" = true)
    (k38 : PySem.W.keepIn K (.ref f38) = true)
    {f39 : Addr} {oc39 kV39 dc39 pm39 cd39 ct39 : Value} {od39 an39 : Option Addr} {sl39 : Array (Option Value)}
    (a39 : PySem.W.nsIn K mainGlobals "want_lines" = some (some (.ref f39)))
    (l39 : K.lookup f39 = some ⟨oc39, od39, .func (PySem.W.fnOf "want_lines" "want_lines" (defArgs s_want_lines) (defBody s_want_lines) (defScope s_want_lines) .none kV39 dc39 pm39 an39 cd39 ct39), sl39⟩)
    (c39 : PySem.W.codeIn K cd39 "want_lines" = true)
    (k39 : PySem.W.keepIn K (.ref f39) = true)
    {f40 : Addr} {oc40 kV40 dc40 pm40 cd40 ct40 : Value} {od40 an40 : Option Addr} {sl40 : Array (Option Value)}
    (a40 : PySem.W.nsIn K mainGlobals "moved_span" = some (some (.ref f40)))
    (l40 : K.lookup f40 = some ⟨oc40, od40, .func (PySem.W.fnOf "moved_span" "moved_span" (defArgs s_moved_span) (defBody s_moved_span) (defScope s_moved_span) .none kV40 dc40 pm40 an40 cd40 ct40), sl40⟩)
    (c40 : PySem.W.codeIn K cd40 "moved_span" = true)
    (k40 : PySem.W.keepIn K (.ref f40) = true)
    {f41 : Addr} {oc41 kV41 dc41 pm41 cd41 ct41 : Value} {od41 an41 : Option Addr} {sl41 : Array (Option Value)}
    (a41 : PySem.W.findIn K (.ref A_Table) "spans" = some (some (.ref f41)))
    (i41 : PySem.W.isFn K (.ref f41) = true)
    (l41 : K.lookup f41 = some ⟨oc41, od41, .func (PySem.W.fnOf "spans" "Table.spans" (defArgs s_Table_spans) (defBody s_Table_spans) (defScope s_Table_spans) .none kV41 dc41 pm41 an41 cd41 ct41), sl41⟩)
    (c41 : PySem.W.codeIn K cd41 "Table.spans" = true)
    (k41 : PySem.W.keepIn K (.ref f41) = true)
    {f42 : Addr} {oc42 kV42 dc42 pm42 cd42 ct42 : Value} {od42 an42 : Option Addr} {sl42 : Array (Option Value)}
    (a42 : PySem.W.nsIn K mainGlobals "moved" = some (some (.ref f42)))
    (l42 : K.lookup f42 = some ⟨oc42, od42, .func (PySem.W.fnOf "moved" "moved" (defArgs s_moved) (defBody s_moved) (defScope s_moved) .none kV42 dc42 pm42 an42 cd42 ct42), sl42⟩)
    (c42 : PySem.W.codeIn K cd42 "moved" = true)
    (k42 : PySem.W.keepIn K (.ref f42) = true)
    {f43 : Addr} {oc43 kV43 dc43 pm43 cd43 ct43 : Value} {od43 an43 : Option Addr} {sl43 : Array (Option Value)}
    {p43 : Addr} {rest43 : List Value}
    (a43 : PySem.W.findIn K (.ref A_Table) "data" = some (some (.ref p43)))
    (gt43 : PySem.W.specialIn K (.ref p43) "__get__" = some (some (.builtin "property.__get__")))
    (tk43 : PySem.W.takesIn K (.ref p43) = some true)
    (rc43 : PySem.W.recIn K p43 "property" = some (.ref f43 :: rest43))
    (l43 : K.lookup f43 = some ⟨oc43, od43, .func (PySem.W.fnOf "data" "Table.data" (defArgs s_Table_data) (defBody s_Table_data) (defScope s_Table_data) .none kV43 dc43 pm43 an43 cd43 ct43), sl43⟩)
    (c43 : PySem.W.codeIn K cd43 "Table.data" = true)
    (k43 : PySem.W.keepIn K (.ref f43) = true)
    (ve_BadCount : PySem.W.subIn K (.ref A_BadCount) (.type "BaseException") = some true)
    (vc_BadCount : PySem.W.isClsIn K A_BadCount = true)
    (vt_BadCount : PySem.W.typeIn K (.ref A_BadCount) = some (.type "type"))
    (vs_BadCount_BadCount : PySem.W.subIn K (.ref A_BadCount) (.ref A_BadCount) = some true)
    (vs_BadSpan_BadCount : PySem.W.subIn K (.ref A_BadSpan) (.ref A_BadCount) = some false)
    (vs_BadLine_BadCount : PySem.W.subIn K (.ref A_BadLine) (.ref A_BadCount) = some false)
    (vs_BadTable_BadCount : PySem.W.subIn K (.ref A_BadTable) (.ref A_BadCount) = some false)
    (ya_BadCount : PySem.W.findIn K (.ref A_BadCount) "__getattribute__" = some (some (.builtin "BaseException.__getattribute__")))
    (yg_BadCount : PySem.W.findIn K (.ref A_BadCount) "__getattr__" = some none)
    (ye_BadCount : PySem.W.subIn K (.ref A_BadCount) (.type "BaseException") = some true)
    (yd_BadCount : PySem.W.hasDictIn K A_BadCount = true)
    (yn_BadCount_many : PySem.W.findIn K (.ref A_BadCount) "many" = some none)
    (ve_BadLine : PySem.W.subIn K (.ref A_BadLine) (.type "BaseException") = some true)
    (vc_BadLine : PySem.W.isClsIn K A_BadLine = true)
    (vt_BadLine : PySem.W.typeIn K (.ref A_BadLine) = some (.type "type"))
    (vs_BadCount_BadLine : PySem.W.subIn K (.ref A_BadCount) (.ref A_BadLine) = some false)
    (vs_BadSpan_BadLine : PySem.W.subIn K (.ref A_BadSpan) (.ref A_BadLine) = some false)
    (vs_BadLine_BadLine : PySem.W.subIn K (.ref A_BadLine) (.ref A_BadLine) = some true)
    (vs_BadTable_BadLine : PySem.W.subIn K (.ref A_BadTable) (.ref A_BadLine) = some false)
    (ya_BadLine : PySem.W.findIn K (.ref A_BadLine) "__getattribute__" = some (some (.builtin "BaseException.__getattribute__")))
    (yg_BadLine : PySem.W.findIn K (.ref A_BadLine) "__getattr__" = some none)
    (ye_BadLine : PySem.W.subIn K (.ref A_BadLine) (.type "BaseException") = some true)
    (yd_BadLine : PySem.W.hasDictIn K A_BadLine = true)
    (yn_BadLine_line : PySem.W.findIn K (.ref A_BadLine) "line" = some none)
    {f44 : Addr} {oc44 kV44 dc44 pm44 cd44 ct44 : Value} {od44 an44 : Option Addr} {sl44 : Array (Option Value)}
    (a44 : PySem.W.nsIn K mainGlobals "_law_said" = some (some (.ref f44)))
    (l44 : K.lookup f44 = some ⟨oc44, od44, .func (PySem.W.fnOf "_law_said" "_law_said" (defArgs s__law_said) (defBody s__law_said) (defScope s__law_said) .none kV44 dc44 pm44 an44 cd44 ct44), sl44⟩)
    (c44 : PySem.W.codeIn K cd44 "_law_said" = true)
    (k44 : PySem.W.keepIn K (.ref f44) = true)
    {f45 : Addr} {oc45 kV45 dc45 pm45 cd45 ct45 : Value} {od45 an45 : Option Addr} {sl45 : Array (Option Value)}
    (a45 : PySem.W.nsIn K mainGlobals "_law_moved" = some (some (.ref f45)))
    (l45 : K.lookup f45 = some ⟨oc45, od45, .func (PySem.W.fnOf "_law_moved" "_law_moved" (defArgs s__law_moved) (defBody s__law_moved) (defScope s__law_moved) .none kV45 dc45 pm45 an45 cd45 ct45), sl45⟩)
    (c45 : PySem.W.codeIn K cd45 "_law_moved" = true)
    (k45 : PySem.W.keepIn K (.ref f45) = true)
    {f46 : Addr} {oc46 kV46 dc46 pm46 cd46 ct46 : Value} {od46 an46 : Option Addr} {sl46 : Array (Option Value)}
    (a46 : PySem.W.nsIn K mainGlobals "_law_due" = some (some (.ref f46)))
    (l46 : K.lookup f46 = some ⟨oc46, od46, .func (PySem.W.fnOf "_law_due" "_law_due" (defArgs s__law_due) (defBody s__law_due) (defScope s__law_due) .none kV46 dc46 pm46 an46 cd46 ct46), sl46⟩)
    (c46 : PySem.W.codeIn K cd46 "_law_due" = true)
    (k46 : PySem.W.keepIn K (.ref f46) = true)
    {f47 : Addr} {oc47 kV47 dc47 pm47 cd47 ct47 : Value} {od47 an47 : Option Addr} {sl47 : Array (Option Value)}
    (a47 : PySem.W.nsIn K mainGlobals "law" = some (some (.ref f47)))
    (l47 : K.lookup f47 = some ⟨oc47, od47, .func (PySem.W.fnOf "law" "law" (defArgs s_law) (defBody s_law) (defScope s_law) .none kV47 dc47 pm47 an47 cd47 ct47), sl47⟩)
    (c47 : PySem.W.codeIn K cd47 "law" = true)
    (k47 : PySem.W.keepIn K (.ref f47) = true)
    (ya_BadTable : PySem.W.findIn K (.ref A_BadTable) "__getattribute__" = some (some (.builtin "BaseException.__getattribute__")))
    (yg_BadTable : PySem.W.findIn K (.ref A_BadTable) "__getattr__" = some none)
    (ye_BadTable : PySem.W.subIn K (.ref A_BadTable) (.type "BaseException") = some true)
    (yd_BadTable : PySem.W.hasDictIn K A_BadTable = true)
    (yn_BadTable_at : PySem.W.findIn K (.ref A_BadTable) "at" = some none)
    (yn_BadTable_why : PySem.W.findIn K (.ref A_BadTable) "why" = some none)
    {f48 : Addr} {oc48 kV48 dc48 pm48 cd48 ct48 : Value} {od48 an48 : Option Addr} {sl48 : Array (Option Value)}
    {en48 eq48 : Str} {eN48 : Addr} {eb48 em48 : List Value} {es48 : List Str} {eu48 : List Value} {ea48 : Bool} {ec48 : Option Bool} {ed48 : Option Addr} {e0_48 e1_48 e2_48 e3_48 e5_48 : Option Value}
    (xl48 : K.lookup A_BadTable = some (PySem.excClassObj en48 eq48 A_BadTable eN48 eb48 em48 true es48 eu48 ea48 ec48 ed48 e0_48 e1_48 e2_48 e3_48 e5_48 "ValueError.__new__"))
    (xv48 : PySem.HandSPX.refsVE em48 = true)
    (xs48 : PySem.W.findIn K (.ref A_BadTable) "__setattr__" = some (some (.builtin "object.__setattr__")))
    (xe48 : PySem.W.subIn K (.ref A_BadTable) (.type "BaseException") = some true)
    (xt48 : PySem.W.typeIn K (.ref A_BadTable) = some (.type "type"))
    (xk48 : PySem.W.keepIn K (.ref A_BadTable) = true)
    (a48 : PySem.W.findIn K (.ref A_BadTable) "__init__" = some (some (.ref f48)))
    (t48 : PySem.W.typeIn K (.ref f48) = some (.type "function"))
    (l48 : K.lookup f48 = some ⟨oc48, od48, .func (PySem.W.fnOf "__init__" "BadTable.__init__" (defArgs s_BadTable___init__) (defBody s_BadTable___init__) (defScope s_BadTable___init__) .none kV48 dc48 pm48 an48 cd48 ct48), sl48⟩)
    (c48 : PySem.W.codeIn K cd48 "BadTable.__init__" = true)
    (k48 : PySem.W.keepIn K (.ref f48) = true)
    {f49 : Addr} {oc49 kV49 dc49 pm49 cd49 ct49 : Value} {od49 an49 : Option Addr} {sl49 : Array (Option Value)}
    {en49 eq49 : Str} {eN49 : Addr} {eb49 em49 : List Value} {es49 : List Str} {eu49 : List Value} {ea49 : Bool} {ec49 : Option Bool} {ed49 : Option Addr} {e0_49 e1_49 e2_49 e3_49 e5_49 : Option Value}
    (xl49 : K.lookup A_BadLine = some (PySem.excClassObj en49 eq49 A_BadLine eN49 eb49 em49 true es49 eu49 ea49 ec49 ed49 e0_49 e1_49 e2_49 e3_49 e5_49 "ValueError.__new__"))
    (xv49 : PySem.HandSPX.refsVE em49 = true)
    (xs49 : PySem.W.findIn K (.ref A_BadLine) "__setattr__" = some (some (.builtin "object.__setattr__")))
    (xe49 : PySem.W.subIn K (.ref A_BadLine) (.type "BaseException") = some true)
    (xt49 : PySem.W.typeIn K (.ref A_BadLine) = some (.type "type"))
    (xk49 : PySem.W.keepIn K (.ref A_BadLine) = true)
    (a49 : PySem.W.findIn K (.ref A_BadLine) "__init__" = some (some (.ref f49)))
    (t49 : PySem.W.typeIn K (.ref f49) = some (.type "function"))
    (l49 : K.lookup f49 = some ⟨oc49, od49, .func (PySem.W.fnOf "__init__" "BadLine.__init__" (defArgs s_BadLine___init__) (defBody s_BadLine___init__) (defScope s_BadLine___init__) .none kV49 dc49 pm49 an49 cd49 ct49), sl49⟩)
    (c49 : PySem.W.codeIn K cd49 "BadLine.__init__" = true)
    (k49 : PySem.W.keepIn K (.ref f49) = true)
    (ya_BadSpan : PySem.W.findIn K (.ref A_BadSpan) "__getattribute__" = some (some (.builtin "BaseException.__getattribute__")))
    (yg_BadSpan : PySem.W.findIn K (.ref A_BadSpan) "__getattr__" = some none)
    (ye_BadSpan : PySem.W.subIn K (.ref A_BadSpan) (.type "BaseException") = some true)
    (yd_BadSpan : PySem.W.hasDictIn K A_BadSpan = true)
    (yn_BadSpan_at : PySem.W.findIn K (.ref A_BadSpan) "at" = some none)
    {f50 : Addr} {oc50 kV50 dc50 pm50 cd50 ct50 : Value} {od50 an50 : Option Addr} {sl50 : Array (Option Value)}
    {en50 eq50 : Str} {eN50 : Addr} {eb50 em50 : List Value} {es50 : List Str} {eu50 : List Value} {ea50 : Bool} {ec50 : Option Bool} {ed50 : Option Addr} {e0_50 e1_50 e2_50 e3_50 e5_50 : Option Value}
    (xl50 : K.lookup A_BadSpan = some (PySem.excClassObj en50 eq50 A_BadSpan eN50 eb50 em50 true es50 eu50 ea50 ec50 ed50 e0_50 e1_50 e2_50 e3_50 e5_50 "ValueError.__new__"))
    (xv50 : PySem.HandSPX.refsVE em50 = true)
    (xs50 : PySem.W.findIn K (.ref A_BadSpan) "__setattr__" = some (some (.builtin "object.__setattr__")))
    (xe50 : PySem.W.subIn K (.ref A_BadSpan) (.type "BaseException") = some true)
    (xt50 : PySem.W.typeIn K (.ref A_BadSpan) = some (.type "type"))
    (xk50 : PySem.W.keepIn K (.ref A_BadSpan) = true)
    (a50 : PySem.W.findIn K (.ref A_BadSpan) "__init__" = some (some (.ref f50)))
    (t50 : PySem.W.typeIn K (.ref f50) = some (.type "function"))
    (l50 : K.lookup f50 = some ⟨oc50, od50, .func (PySem.W.fnOf "__init__" "BadSpan.__init__" (defArgs s_BadSpan___init__) (defBody s_BadSpan___init__) (defScope s_BadSpan___init__) .none kV50 dc50 pm50 an50 cd50 ct50), sl50⟩)
    (c50 : PySem.W.codeIn K cd50 "BadSpan.__init__" = true)
    (k50 : PySem.W.keepIn K (.ref f50) = true)
    {f51 : Addr} {oc51 kV51 dc51 pm51 cd51 ct51 : Value} {od51 an51 : Option Addr} {sl51 : Array (Option Value)}
    {en51 eq51 : Str} {eN51 : Addr} {eb51 em51 : List Value} {es51 : List Str} {eu51 : List Value} {ea51 : Bool} {ec51 : Option Bool} {ed51 : Option Addr} {e0_51 e1_51 e2_51 e3_51 e5_51 : Option Value}
    (xl51 : K.lookup A_BadCount = some (PySem.excClassObj en51 eq51 A_BadCount eN51 eb51 em51 true es51 eu51 ea51 ec51 ed51 e0_51 e1_51 e2_51 e3_51 e5_51 "ValueError.__new__"))
    (xv51 : PySem.HandSPX.refsVE em51 = true)
    (xs51 : PySem.W.findIn K (.ref A_BadCount) "__setattr__" = some (some (.builtin "object.__setattr__")))
    (xe51 : PySem.W.subIn K (.ref A_BadCount) (.type "BaseException") = some true)
    (xt51 : PySem.W.typeIn K (.ref A_BadCount) = some (.type "type"))
    (xk51 : PySem.W.keepIn K (.ref A_BadCount) = true)
    (a51 : PySem.W.findIn K (.ref A_BadCount) "__init__" = some (some (.ref f51)))
    (t51 : PySem.W.typeIn K (.ref f51) = some (.type "function"))
    (l51 : K.lookup f51 = some ⟨oc51, od51, .func (PySem.W.fnOf "__init__" "BadCount.__init__" (defArgs s_BadCount___init__) (defBody s_BadCount___init__) (defScope s_BadCount___init__) .none kV51 dc51 pm51 an51 cd51 ct51), sl51⟩)
    (c51 : PySem.W.codeIn K cd51 "BadCount.__init__" = true)
    (k51 : PySem.W.keepIn K (.ref f51) = true)
    (z_NoneType : PySem.W.nsIn K mainGlobals "NoneType" = some none)
    (z_all : PySem.W.nsIn K mainGlobals "all" = some none)
    (z_bool : PySem.W.nsIn K mainGlobals "bool" = some none)
    (z_bytes : PySem.W.nsIn K mainGlobals "bytes" = some none)
    (z_dict : PySem.W.nsIn K mainGlobals "dict" = some none)
    (z_enumerate : PySem.W.nsIn K mainGlobals "enumerate" = some none)
    (z_int : PySem.W.nsIn K mainGlobals "int" = some none)
    (z_isinstance : PySem.W.nsIn K mainGlobals "isinstance" = some none)
    (z_len : PySem.W.nsIn K mainGlobals "len" = some none)
    (z_list : PySem.W.nsIn K mainGlobals "list" = some none)
    (z_max : PySem.W.nsIn K mainGlobals "max" = some none)
    (z_min : PySem.W.nsIn K mainGlobals "min" = some none)
    (z_range : PySem.W.nsIn K mainGlobals "range" = some none)
    (z_str : PySem.W.nsIn K mainGlobals "str" = some none)
    (z_tuple : PySem.W.nsIn K mainGlobals "tuple" = some none)
    {t_MOST : Tok}
    (y_MOST : PySem.W.nsIn K mainGlobals "MOST" = some (some (.int 2147483647 t_MOST)))
    {t_MOST_GROUPS : Tok}
    (y_MOST_GROUPS : PySem.W.nsIn K mainGlobals "MOST_GROUPS" = some (some (.int 8 t_MOST_GROUPS))) :
    ∃ fd : FuncData, (∀ (s : Shared) (v : Value), BindsTo s fd ⟨[v], []⟩ [("_law_script", v)]) ∧ ∀ base : Heap, K.In base → base.Ns mainGlobals mg → FnOk P w K mg base (L2.CX P w) 14 fa fd ["_law_script"] (spI K mg 1 id m_law) := by
  have e := hfa.symm.trans (PySem.W.mg_of X G a47)
  cases e
  have T : Txt K mg := { f__law_well := ⟨_, _, PySem.W.mg_of X G a0, k0, (fun_mk (st := s__law_well) l0 c0 k0)⟩, f__law_draw := ⟨_, _, PySem.W.mg_of X G a1, k1, (fun_mk (st := s__law_draw) l1 c1 k1)⟩, f__law_one := ⟨_, _, PySem.W.mg_of X G a2, k2, (fun_mk (st := s__law_one) l2 c2 k2)⟩, f__law_line := ⟨_, _, PySem.W.mg_of X G a3, k3, (fun_mk (st := s__law_line) l3 c3 k3)⟩, f__law_column := ⟨_, _, PySem.W.mg_of X G a4, k4, (fun_mk (st := s__law_column) l4 c4 k4)⟩, f__law_span := ⟨_, _, PySem.W.mg_of X G a5, k5, (fun_mk (st := s__law_span) l5 c5 k5)⟩, f__law_spans := ⟨_, _, PySem.W.mg_of X G a6, k6, (fun_mk (st := s__law_spans) l6 c6 k6)⟩, f_is_integer := ⟨_, _, PySem.W.mg_of X G a7, k7, (fun_mk (st := s_is_integer) l7 c7 k7)⟩, f_want_line := ⟨_, _, PySem.W.mg_of X G a8, k8, (fun_mk (st := s_want_line) l8 c8 k8)⟩, d_Cursor_source := ⟨A_Cursor, (PySem.W.mg_of X G g_Cursor), ⟨pg_Cursor, hd_Cursor, po_Cursor, sa_Cursor⟩, n_Cursor_source⟩, d_Cursor_at := ⟨A_Cursor, (PySem.W.mg_of X G g_Cursor), ⟨pg_Cursor, hd_Cursor, po_Cursor, sa_Cursor⟩, n_Cursor_at⟩, f_Cursor___init__ := ⟨A_Cursor, f9, _, (PySem.W.mg_of X G g_Cursor), ⟨mk9, a9, i9, kc9⟩, (fun_mk (st := s_Cursor___init__) l9 c9 k9)⟩, d_Entry_at := ⟨A_Entry, (PySem.W.mg_of X G g_Entry), ⟨pg_Entry, hd_Entry, po_Entry, sa_Entry⟩, n_Entry_at⟩, d_Entry_steps := ⟨A_Entry, (PySem.W.mg_of X G g_Entry), ⟨pg_Entry, hd_Entry, po_Entry, sa_Entry⟩, n_Entry_steps⟩, d_Entry_form := ⟨A_Entry, (PySem.W.mg_of X G g_Entry), ⟨pg_Entry, hd_Entry, po_Entry, sa_Entry⟩, n_Entry_form⟩, d_Entry_span := ⟨A_Entry, (PySem.W.mg_of X G g_Entry), ⟨pg_Entry, hd_Entry, po_Entry, sa_Entry⟩, n_Entry_span⟩, d_Entry_end := ⟨A_Entry, (PySem.W.mg_of X G g_Entry), ⟨pg_Entry, hd_Entry, po_Entry, sa_Entry⟩, n_Entry_end⟩, f_Entry___init__ := ⟨A_Entry, f10, _, (PySem.W.mg_of X G g_Entry), ⟨mk10, a10, i10, kc10⟩, (fun_mk (st := s_Entry___init__) l10 c10 k10)⟩, f_Cursor_next_byte := ⟨A_Cursor, f11, _, (PySem.W.mg_of X G g_Cursor), ⟨pg_Cursor, hd_Cursor, po_Cursor, sa_Cursor⟩, ⟨a11, i11, k11⟩, (fun_mk (st := s_Cursor_next_byte) l11 c11 k11)⟩, f_Cursor_number := ⟨A_Cursor, f12, _, (PySem.W.mg_of X G g_Cursor), ⟨pg_Cursor, hd_Cursor, po_Cursor, sa_Cursor⟩, ⟨a12, i12, k12⟩, (fun_mk (st := s_Cursor_number) l12 c12 k12)⟩, f_Cursor_signed := ⟨A_Cursor, f13, _, (PySem.W.mg_of X G g_Cursor), ⟨pg_Cursor, hd_Cursor, po_Cursor, sa_Cursor⟩, ⟨a13, i13, k13⟩, (fun_mk (st := s_Cursor_signed) l13 c13 k13)⟩, f_maybe_column := ⟨_, _, PySem.W.mg_of X G a14, k14, (fun_mk (st := s_maybe_column) l14 c14 k14)⟩, f_raw_span := ⟨_, _, PySem.W.mg_of X G a15, k15, (fun_mk (st := s_raw_span) l15 c15 k15)⟩, f_is_ordered := ⟨_, _, PySem.W.mg_of X G a16, k16, (fun_mk (st := s_is_ordered) l16 c16 k16)⟩, f_read_entry := ⟨_, _, PySem.W.mg_of X G a17, k17, (fun_mk (st := s_read_entry) l17 c17 k17)⟩, f_read_entries := ⟨_, _, PySem.W.mg_of X G a18, k18, (fun_mk (st := s_read_entries) l18 c18 k18)⟩, f_is_byte_data := ⟨_, _, PySem.W.mg_of X G a19, k19, (fun_mk (st := s_is_byte_data) l19 c19 k19)⟩, d_Table_held_data := ⟨A_Table, (PySem.W.mg_of X G g_Table), ⟨pg_Table, hd_Table, po_Table, sa_Table⟩, n_Table_held_data⟩, d_Table_held_line := ⟨A_Table, (PySem.W.mg_of X G g_Table), ⟨pg_Table, hd_Table, po_Table, sa_Table⟩, n_Table_held_line⟩, d_Table_read := ⟨A_Table, (PySem.W.mg_of X G g_Table), ⟨pg_Table, hd_Table, po_Table, sa_Table⟩, n_Table_read⟩, d_Table_held_spans := ⟨A_Table, (PySem.W.mg_of X G g_Table), ⟨pg_Table, hd_Table, po_Table, sa_Table⟩, n_Table_held_spans⟩, f_Table___init__ := ⟨A_Table, f20, _, (PySem.W.mg_of X G g_Table), ⟨mk20, a20, i20, kc20⟩, (fun_mk (st := s_Table___init__) l20 c20 k20)⟩, f_is_span := ⟨_, _, PySem.W.mg_of X G a21, k21, (fun_mk (st := s_is_span) l21 c21 k21)⟩, f_want_spans := ⟨_, _, PySem.W.mg_of X G a22, k22, (fun_mk (st := s_want_spans) l22 c22 k22)⟩, f_runs_of := ⟨_, _, PySem.W.mg_of X G a23, k23, (fun_mk (st := s_runs_of) l23 c23 k23)⟩, f_groups_of := ⟨_, _, PySem.W.mg_of X G a24, k24, (fun_mk (st := s_groups_of) l24 c24 k24)⟩, f_folded := ⟨_, _, PySem.W.mg_of X G a25, k25, (fun_mk (st := s_folded) l25 c25 k25)⟩, f_body_of := ⟨_, _, PySem.W.mg_of X G a26, k26, (fun_mk (st := s_body_of) l26 c26 k26)⟩, f_write_run := ⟨_, _, PySem.W.mg_of X G a27, k27, (fun_mk (st := s_write_run) l27 c27 k27)⟩, f_write_spans := ⟨_, _, PySem.W.mg_of X G a28, k28, (fun_mk (st := s_write_spans) l28 c28 k28)⟩, f_Table_of := ⟨A_Table, .type "type", p29, f29, _, (PySem.W.mg_of X G g_Table), ⟨⟨rd29, ga29⟩, fc29, ⟨_, rc29⟩, k29⟩, (fun_mk (st := s_Table_of) l29 c29 k29)⟩, f__law_idle := ⟨_, _, PySem.W.mg_of X G a30, k30, (fun_mk (st := s__law_idle) l30 c30 k30)⟩, f__law_groups := ⟨_, _, PySem.W.mg_of X G a31, k31, (fun_mk (st := s__law_groups) l31 c31 k31)⟩, f__law_padded := ⟨_, _, PySem.W.mg_of X G a32, k32, (fun_mk (st := s__law_padded) l32 c32 k32)⟩, f__law_folded := ⟨_, _, PySem.W.mg_of X G a33, k33, (fun_mk (st := s__law_folded) l33 c33 k33)⟩, f__law_column_number := ⟨_, _, PySem.W.mg_of X G a34, k34, (fun_mk (st := s__law_column_number) l34 c34 k34)⟩, f__law_loose_entry := ⟨_, _, PySem.W.mg_of X G a35, k35, (fun_mk (st := s__law_loose_entry) l35 c35 k35)⟩, f__law_written := ⟨_, _, PySem.W.mg_of X G a36, k36, (fun_mk (st := s__law_written) l36 c36 k36)⟩, f__law_edit := ⟨_, _, PySem.W.mg_of X G a37, k37, (fun_mk (st := s__law_edit) l37 c37 k37)⟩, f_Table_first_line := ⟨A_Table, p38, f38, _, (PySem.W.mg_of X G g_Table), ⟨pg_Table, hd_Table, po_Table, sa_Table⟩, ⟨a38, gt38, tk38, ⟨_, rc38⟩⟩, (fun_mk (st := s_Table_first_line) l38 c38 k38)⟩, f_want_lines := ⟨_, _, PySem.W.mg_of X G a39, k39, (fun_mk (st := s_want_lines) l39 c39 k39)⟩, f_moved_span := ⟨_, _, PySem.W.mg_of X G a40, k40, (fun_mk (st := s_moved_span) l40 c40 k40)⟩, f_Table_spans := ⟨A_Table, f41, _, (PySem.W.mg_of X G g_Table), ⟨pg_Table, hd_Table, po_Table, sa_Table⟩, ⟨a41, i41, k41⟩, (fun_mk (st := s_Table_spans) l41 c41 k41)⟩, f_moved := ⟨_, _, PySem.W.mg_of X G a42, k42, (fun_mk (st := s_moved) l42 c42 k42)⟩, f_Table_data := ⟨A_Table, p43, f43, _, (PySem.W.mg_of X G g_Table), ⟨pg_Table, hd_Table, po_Table, sa_Table⟩, ⟨a43, gt43, tk43, ⟨_, rc43⟩⟩, (fun_mk (st := s_Table_data) l43 c43 k43)⟩, k_BadCount := ⟨_, (PySem.W.mg_of X G g_BadCount)⟩, m_BadCount_BadCount := fun C D h1 h2 => by rw [(PySem.W.mg_of X G g_BadCount)] at h1; rw [(PySem.W.mg_of X G g_BadCount)] at h2; cases h1; cases h2; exact exm_own ve_BadCount vc_BadCount vt_BadCount vs_BadCount_BadCount, k_BadSpan := ⟨_, (PySem.W.mg_of X G g_BadSpan)⟩, m_BadSpan_BadCount := fun C D h1 h2 => by rw [(PySem.W.mg_of X G g_BadSpan)] at h1; rw [(PySem.W.mg_of X G g_BadCount)] at h2; cases h1; cases h2; exact exm_own ve_BadCount vc_BadCount vt_BadCount vs_BadSpan_BadCount, k_BadLine := ⟨_, (PySem.W.mg_of X G g_BadLine)⟩, m_BadLine_BadCount := fun C D h1 h2 => by rw [(PySem.W.mg_of X G g_BadLine)] at h1; rw [(PySem.W.mg_of X G g_BadCount)] at h2; cases h1; cases h2; exact exm_own ve_BadCount vc_BadCount vt_BadCount vs_BadLine_BadCount, k_BadTable := ⟨_, (PySem.W.mg_of X G g_BadTable)⟩, m_BadTable_BadCount := fun C D h1 h2 => by rw [(PySem.W.mg_of X G g_BadTable)] at h1; rw [(PySem.W.mg_of X G g_BadCount)] at h2; cases h1; cases h2; exact exm_own ve_BadCount vc_BadCount vt_BadCount vs_BadTable_BadCount, x_BadCount_many := ⟨A_BadCount, (PySem.W.mg_of X G g_BadCount), ⟨ya_BadCount, yg_BadCount, ye_BadCount, yd_BadCount⟩, yn_BadCount_many⟩, m_BadCount_BadLine := fun C D h1 h2 => by rw [(PySem.W.mg_of X G g_BadCount)] at h1; rw [(PySem.W.mg_of X G g_BadLine)] at h2; cases h1; cases h2; exact exm_own ve_BadLine vc_BadLine vt_BadLine vs_BadCount_BadLine, m_BadSpan_BadLine := fun C D h1 h2 => by rw [(PySem.W.mg_of X G g_BadSpan)] at h1; rw [(PySem.W.mg_of X G g_BadLine)] at h2; cases h1; cases h2; exact exm_own ve_BadLine vc_BadLine vt_BadLine vs_BadSpan_BadLine, m_BadLine_BadLine := fun C D h1 h2 => by rw [(PySem.W.mg_of X G g_BadLine)] at h1; rw [(PySem.W.mg_of X G g_BadLine)] at h2; cases h1; cases h2; exact exm_own ve_BadLine vc_BadLine vt_BadLine vs_BadLine_BadLine, m_BadTable_BadLine := fun C D h1 h2 => by rw [(PySem.W.mg_of X G g_BadTable)] at h1; rw [(PySem.W.mg_of X G g_BadLine)] at h2; cases h1; cases h2; exact exm_own ve_BadLine vc_BadLine vt_BadLine vs_BadTable_BadLine, x_BadLine_line := ⟨A_BadLine, (PySem.W.mg_of X G g_BadLine), ⟨ya_BadLine, yg_BadLine, ye_BadLine, yd_BadLine⟩, yn_BadLine_line⟩, f__law_said := ⟨_, _, PySem.W.mg_of X G a44, k44, (fun_mk (st := s__law_said) l44 c44 k44)⟩, f__law_moved := ⟨_, _, PySem.W.mg_of X G a45, k45, (fun_mk (st := s__law_moved) l45 c45 k45)⟩, f__law_due := ⟨_, _, PySem.W.mg_of X G a46, k46, (fun_mk (st := s__law_due) l46 c46 k46)⟩, f_law := ⟨_, _, PySem.W.mg_of X G a47, k47, (fun_mk (st := s_law) l47 c47 k47)⟩, x_BadTable_at := ⟨A_BadTable, (PySem.W.mg_of X G g_BadTable), ⟨ya_BadTable, yg_BadTable, ye_BadTable, yd_BadTable⟩, yn_BadTable_at⟩, x_BadTable_why := ⟨A_BadTable, (PySem.W.mg_of X G g_BadTable), ⟨ya_BadTable, yg_BadTable, ye_BadTable, yd_BadTable⟩, yn_BadTable_why⟩, e_BadTable := ⟨A_BadTable, f48, _, (PySem.W.mg_of X G g_BadTable), ⟨⟨_, _, _, _, _, _, _, _, _, _, _, _, _, _, _, xl48, xv48⟩, xs48, xe48, xt48, xk48⟩, a48, t48, (fun_mk (st := s_BadTable___init__) l48 c48 k48)⟩, e_BadLine := ⟨A_BadLine, f49, _, (PySem.W.mg_of X G g_BadLine), ⟨⟨_, _, _, _, _, _, _, _, _, _, _, _, _, _, _, xl49, xv49⟩, xs49, xe49, xt49, xk49⟩, a49, t49, (fun_mk (st := s_BadLine___init__) l49 c49 k49)⟩, x_BadSpan_at := ⟨A_BadSpan, (PySem.W.mg_of X G g_BadSpan), ⟨ya_BadSpan, yg_BadSpan, ye_BadSpan, yd_BadSpan⟩, yn_BadSpan_at⟩, e_BadSpan := ⟨A_BadSpan, f50, _, (PySem.W.mg_of X G g_BadSpan), ⟨⟨_, _, _, _, _, _, _, _, _, _, _, _, _, _, _, xl50, xv50⟩, xs50, xe50, xt50, xk50⟩, a50, t50, (fun_mk (st := s_BadSpan___init__) l50 c50 k50)⟩, e_BadCount := ⟨A_BadCount, f51, _, (PySem.W.mg_of X G g_BadCount), ⟨⟨_, _, _, _, _, _, _, _, _, _, _, _, _, _, _, xl51, xv51⟩, xs51, xe51, xt51, xk51⟩, a51, t51, (fun_mk (st := s_BadCount___init__) l51 c51 k51)⟩, n_NoneType := PySem.W.mg_none_of X G z_NoneType, n_all := PySem.W.mg_none_of X G z_all, n_bool := PySem.W.mg_none_of X G z_bool, n_bytes := PySem.W.mg_none_of X G z_bytes, n_dict := PySem.W.mg_none_of X G z_dict, n_enumerate := PySem.W.mg_none_of X G z_enumerate, n_int := PySem.W.mg_none_of X G z_int, n_isinstance := PySem.W.mg_none_of X G z_isinstance, n_len := PySem.W.mg_none_of X G z_len, n_list := PySem.W.mg_none_of X G z_list, n_max := PySem.W.mg_none_of X G z_max, n_min := PySem.W.mg_none_of X G z_min, n_range := PySem.W.mg_none_of X G z_range, n_str := PySem.W.mg_none_of X G z_str, n_tuple := PySem.W.mg_none_of X G z_tuple, c_MOST := ⟨_, PySem.W.mg_of X G y_MOST⟩, c_MOST_GROUPS := ⟨_, PySem.W.mg_of X G y_MOST_GROUPS⟩ }
  exact ⟨PySem.W.fnOf "law" "law" (defArgs s_law) (defBody s_law) (defScope s_law) .none kV47 dc47 pm47 an47 cd47 ct47, fun s v => .of_eq rfl, fun base _ _ => fo_law (fun_mk (st := s_law) l47 c47 k47) T⟩
end Mir.K33
end

/-! ShNum -/
section
set_option linter.all false
/-! ShNum: numbers in groups of six bits. -/
namespace Mir.Sh
open Mir
/-- numbers as values -/
def nums (xs : List Nat) : List D := xs.map fun (k : Nat) => D.int (k : Int)
@[simp] theorem nums_nil : nums [] = [] := id rfl
@[simp] theorem nums_cons (k : Nat) (xs : List Nat) : nums (k :: xs) = .int (k : Int) :: nums xs := id rfl
@[simp] theorem nums_app (xs ys : List Nat) : nums (xs ++ ys) = nums xs ++ nums ys := List.map_append
@[simp] theorem nums_len (xs : List Nat) : (nums xs).length = xs.length := List.length_map _
theorem nums_inj {a b : List Nat} : nums a = nums b ↔ a = b := by
  constructor
  · intro h
    induction a generalizing b with
    | nil => cases b with
      | nil => rfl
      | cons y s => simp at h
    | cons x r ih => cases b with
      | nil => simp at h
      | cons y s =>
        simp only [nums_cons, List.cons.injEq, D.int.injEq] at h
        rw [ih h.2]
        congr 1; omega
  · intro h; rw [h]
theorem limL_nums (n : Nat) (xs : List Nat) : limL n (nums xs) = true := by
  induction xs with
  | nil => simp
  | cons x r ih => simp [ih]
@[simp] theorem limL_nums_ (n : Nat) (xs : List Nat) : limL n (nums xs) = true := limL_nums n xs
def groups (n : Nat) : List Nat := if n < 64 then [n] else (n % 64 + 64) :: groups (n / 64)
decreasing_by omega
def gl (d r : Nat) : List Nat := if r = 0 then [d] else (d + 64) :: gl (r % 64) (r / 64)
decreasing_by omega
theorem gl_pos (d : Nat) {r : Nat} (h : r ≠ 0) : gl d r = (d + 64) :: gl (r % 64) (r / 64) := by rw [gl, if_neg h]
theorem gl_eq (n : Nat) : gl (n % 64) (n / 64) = groups n := by
  induction n using Nat.strongRecOn with
  | ind n ih =>
    by_cases h : n < 64
    · rw [groups, if_pos h, gl, if_pos (by omega)]
      congr 1; omega
    · rw [groups, if_neg h, gl_pos _ (by omega), ih (n / 64) (by omega)]
theorem groups_loop (b : Nat) (x : Option D) (S : Sto) (hb : b ≤ S.length) : ∀ (r d : Nat) (acc : List Nat), acc.length + (gl d r).length ≤ 16777216 →
    whileM (cmpT gtS (rawM 2) (cM (.int 0))) l_groups_of_0 b [x, some (.ref S.length), some (.int r)] (S ++ [.lst true (nums (acc ++ [d]))])
      = .ok .nx [x, some (.ref S.length), some (.int 0)] (S ++ [.lst true (nums (acc ++ gl d r))]) := by
  intro r
  induction r using Nat.strongRecOn with
  | ind r ih =>
    intro d acc hl
    rw [whileM_ap]
    by_cases h : r = 0
    · subst h
      rw [gl, if_pos rfl]
      simp
    · rw [gl_pos d h] at hl ⊢
      simp only [List.length_cons] at hl
      have e := ih (r / 64) (by omega) (r % 64) (acc ++ [d + 64]) (by simp; omega)
      have h0 : 0 < r := by omega
      have hg : 0 < (gl (r % 64) (r / 64)).length := by rw [gl]; split <;> simp
      simp at e
      have hn : acc.length + 1 < 16777216 := by omega
      simp [h0, l_groups_of_0, l_groups_of_0_1, l_groups_of_0_2, hb, hn, e]
theorem groups_of_eq (n : Nat) (S : Sto) (h : (groups n).length ≤ 16777216) : m_groups_of [.int n] S = .ok (.lst (nums (groups n))) [] S := by
  have e := groups_loop S.length (some (.int n)) S (Nat.le_refl _) (n / 64) (n % 64) [] (by rw [gl_eq]; simpa using h)
  rw [gl_eq] at e
  simp at e
  unfold m_groups_of
  rw [fnM_ap]
  simp [b_groups_of_0, b_groups_of_1, b_groups_of_2, b_groups_of_3, e]
theorem law_groups_loop (b : Nat) (S : Sto) (hb : b ≤ S.length) : ∀ (n : Nat) (acc : List Nat), acc.length + (groups n).length ≤ 16777216 →
    ∃ (k : Nat) (acc' : List Nat), nums acc ++ nums (groups n) = nums acc' ++ [.int k] ∧ whileM (cmpT geS (rawM 0) (cM (.int 64))) l__law_groups_0 b [some (.int n), some (.ref S.length)] (S ++ [.lst true (nums acc)])
      = .ok .nx [some (.int k), some (.ref S.length)] (S ++ [.lst true (nums acc')]) := by
  intro n
  induction n using Nat.strongRecOn with
  | ind n ih =>
    intro acc hl
    rw [whileM_ap]
    by_cases h : n < 64
    · refine ⟨n, acc, ?_, ?_⟩
      · rw [groups, if_pos h]; simp
      · have h0 : ¬ 64 ≤ n := by omega
        simp [h0]
    · rw [groups, if_neg h] at hl ⊢
      simp only [List.length_cons] at hl
      obtain ⟨k, acc', e1, e2⟩ := ih (n / 64) (by omega) (acc ++ [n % 64 + 64]) (by simp; omega)
      refine ⟨k, acc', ?_, ?_⟩
      · rw [← e1]; simp
      · have h0 : 64 ≤ n := by omega
        simp at e2
        have h1 : (64 : Int) ≤ (n : Int) := by omega
        have hn : acc.length < 16777216 := by omega
        simp [l__law_groups_0, l__law_groups_0_1, hb, hn, e2, h1]
theorem law_groups_eq (n : Nat) (S : Sto) (h : (groups n).length ≤ 16777216) : m__law_groups [.int n] S = .ok (.lst (nums (groups n))) [] S := by
  obtain ⟨k, acc', e1, e2⟩ := law_groups_loop S.length S (Nat.le_refl _) n [] (by simpa using h)
  have hl := congrArg List.length e1
  simp at hl
  have h1 : acc'.length + 1 ≤ 16777216 := by omega
  simp at e2
  unfold m__law_groups
  rw [fnM_ap]
  simp at e1
  simp [b__law_groups_0, b__law_groups_1, b__law_groups_2, e2, h1, ← e1]
def fold (z : Int) : Nat := if 0 ≤ z then (2 * z).toNat else (1 - 2 * z).toNat
theorem folded_eq (z : Int) (S : Sto) : m_folded [.int z] S = .ok (.int (fold z)) [] S := by
  unfold m_folded
  rw [fnM_ap]
  by_cases h : 0 ≤ z
  · simp [b_folded_0, h, fold]; omega
  · simp [b_folded_0, h, fold]; omega
theorem law_folded_eq (z : Int) (S : Sto) : m__law_folded [.int z] S = .ok (.int (fold z)) [] S := by
  unfold m__law_folded
  rw [fnM_ap]
  by_cases h : 0 ≤ z
  · simp [b__law_folded_0, h, fold]; omega
  · simp [b__law_folded_0, h, fold]; omega
end Mir.Sh
end

/-! ShSpan -/
section
set_option linter.all false
/-! ShSpan: what is_integer, is_ordered, is_span compute. -/
namespace Mir.Sh
open Mir
/-- none, a bool, an int, a text, bytes, a list, a tuple, {} -/
def plainD : D → Bool
  | .non | .bl _ | .int _ | .str _ | .byt _ | .lst _ | .frz _ | .tup _ | .edi => true
  | _ => false
@[simp] theorem plainD_non : plainD .non = true := id rfl
@[simp] theorem plainD_bl (k : Bool) : plainD (.bl k) = true := id rfl
@[simp] theorem plainD_int (k : Int) : plainD (.int k) = true := id rfl
@[simp] theorem plainD_str (k : List Nat) : plainD (.str k) = true := id rfl
@[simp] theorem plainD_byt (k : List Nat) : plainD (.byt k) = true := id rfl
@[simp] theorem plainD_lst (k : List D) : plainD (.lst k) = true := id rfl
@[simp] theorem plainD_frz (k : List D) : plainD (.frz k) = true := id rfl
@[simp] theorem plainD_tup (k : List D) : plainD (.tup k) = true := id rfl
@[simp] theorem plainD_edi : plainD .edi = true := id rfl
def isInt (lo hi : Int) : D → Bool
  | .int v => decide (lo ≤ v) && decide (v ≤ hi)
  | _ => false
@[simp] theorem isInt_non (lo hi : Int) : isInt lo hi .non = false := id rfl
@[simp] theorem isInt_bl (lo hi : Int) (k : Bool) : isInt lo hi (.bl k) = false := id rfl
@[simp] theorem isInt_str (lo hi : Int) (k : List Nat) : isInt lo hi (.str k) = false := id rfl
@[simp] theorem isInt_byt (lo hi : Int) (k : List Nat) : isInt lo hi (.byt k) = false := id rfl
@[simp] theorem isInt_lst (lo hi : Int) (k : List D) : isInt lo hi (.lst k) = false := id rfl
@[simp] theorem isInt_frz (lo hi : Int) (k : List D) : isInt lo hi (.frz k) = false := id rfl
@[simp] theorem isInt_tup (lo hi : Int) (k : List D) : isInt lo hi (.tup k) = false := id rfl
@[simp] theorem isInt_edi (lo hi : Int) : isInt lo hi .edi = false := id rfl
theorem is_integer_eq {d : D} (h : plainD d = true) (lo hi : Int) (S : Sto) : m_is_integer [d, .int lo, .int hi] S = .ok (.bl (isInt lo hi d)) [] S := by
  unfold m_is_integer
  rw [fnM_ap]
  have no : ∀ d : D, isiO ty_int S d = some false → isInt lo hi d = false → plainD d = true → fnR false S.length ((seqM b_is_integer_0 b_is_integer_1) S.length [some d, some (.int lo), some (.int hi)] S) = .ok (.bl (isInt lo hi d)) [] S := by
    intro d h1 h2 _
    simp [b_is_integer_0, h1, h2]
  cases d <;> first | (cases h; done) | skip
  case int v =>
    have h1 : isiO ty_int S (.int v) = some true := rfl
    have h2 : isiO ty_bool S (.int v) = some false := rfl
    by_cases ha : lo ≤ v
    · simp [b_is_integer_0, b_is_integer_1, h1, h2, isInt, ha]
    · simp [b_is_integer_0, b_is_integer_1, h1, h2, isInt, ha]
  case bl k =>
    have h1 : isiO ty_int S (.bl k) = some true := rfl
    have h2 : isiO ty_bool S (.bl k) = some true := rfl
    simp [b_is_integer_0, h1, h2, isInt]
  all_goals exact no _ rfl rfl rfl
theorem plain_gl {d : D} (h : plainD d = true) : isGl d = false := by cases d <;> first | rfl | cases h
theorem plain_nr {d : D} (h : plainD d = true) : d.isRef = false := by cases d <;> first | rfl | cases h
def leD (c b : D) : Bool := match c, b with
  | .int x, .int y => decide (x ≤ y)
  | _, _ => false
@[simp] theorem leD_int (x y : Int) : leD (.int x) (.int y) = decide (x ≤ y) := id rfl
def ordB (l k : Int) (c b : D) : Bool := if isNoneD c = true ∧ isNoneD b = true then decide (l = k) else isInt 0 2147483647 c && isInt 0 2147483647 b && (decide (l < k) || leD c b)
theorem isInt_inv {lo hi : Int} {d : D} (h : isInt lo hi d = true) : ∃ v, d = .int v := by
  cases d <;> first | exact ⟨_, rfl⟩ | cases h
theorem is_ordered_eq {c b : D} (hc : plainD c = true) (hb : plainD b = true) (l k : Int) (S : Sto) : m_is_ordered [.int l, .int k, c, b] S = .ok (.bl (ordB l k c b)) [] S := by
  unfold m_is_ordered
  rw [fnM_ap]
  by_cases h1 : isNoneD c = true
  · by_cases h2 : isNoneD b = true
    · simp [b_is_ordered_0, plain_gl hc, plain_gl hb, h1, h2, ordB]
    · cases c <;> first | (cases h1; done) | skip
      simp [b_is_ordered_0, b_is_ordered_1, plain_gl hb, h2, ordB, is_integer_eq, isInt]
  · by_cases h3 : isInt 0 2147483647 c = true
    · obtain ⟨x, rfl⟩ := isInt_inv h3
      by_cases h4 : isInt 0 2147483647 b = true
      · obtain ⟨y, rfl⟩ := isInt_inv h4
        by_cases h5 : l < k
        · simp [b_is_ordered_0, b_is_ordered_1, b_is_ordered_2, is_integer_eq, h3, h4, h5, ordB]
        · simp [b_is_ordered_0, b_is_ordered_1, b_is_ordered_2, is_integer_eq, h3, h4, h5, ordB]
      · simp [b_is_ordered_0, b_is_ordered_1, is_integer_eq, hb, plain_nr hb, h3, h4, ordB]
    · simp [b_is_ordered_0, b_is_ordered_1, is_integer_eq, hc, hb, plain_nr hc, plain_gl hc, h1, h3, ordB]
/-- is_span, on values -/
def spanB (l k c b : D) : Bool := match l with
  | .int v => isInt 1 2147483647 l && isInt v 2147483647 k && (match k with
    | .int w => ordB v w c b
    | _ => false)
  | _ => false
def isSpanB : D → Bool
  | .non => true
  | .tup [l, k, c, b] => spanB l k c b
  | _ => false
theorem is_span_four {l k c b : D} (hl : plainD l = true) (hk : plainD k = true) (hc : plainD c = true) (hb : plainD b = true) (S : Sto) : m_is_span [.tup [l, k, c, b]] S = .ok (.bl (spanB l k c b)) [] S := by
  unfold m_is_span
  rw [fnM_ap]
  have h1 : isiO ty_tuple S (.tup [l, k, c, b]) = some true := rfl
  by_cases h3 : isInt 1 2147483647 l = true
  · obtain ⟨v, rfl⟩ := isInt_inv h3
    by_cases h4 : isInt v 2147483647 k = true
    · obtain ⟨w, rfl⟩ := isInt_inv h4
      simp [b_is_span_0, b_is_span_1, b_is_span_2, b_is_span_3, b_is_span_4, h1, is_integer_eq, is_ordered_eq, h3, h4, hc, hb, plain_nr hc, plain_nr hb, spanB]
    · have : spanB (.int v) k c b = false := by simp [spanB, h4]
      rw [this]
      simp [b_is_span_0, b_is_span_1, b_is_span_2, b_is_span_3, h1, is_integer_eq, h3, h4, hk, plain_nr hk]
  · have : spanB l k c b = false := by cases l <;> simp_all [spanB]
    rw [this]
    simp [b_is_span_0, b_is_span_1, b_is_span_2, b_is_span_3, h1, is_integer_eq, h3, hl, plain_nr hl]
theorem is_span_non (S : Sto) : m_is_span [.non] S = .ok (.bl true) [] S := by
  unfold m_is_span
  rw [fnM_ap]
  simp [b_is_span_0]
theorem is_span_tup {xs : List D} (h : xs.length ≠ 4) (S : Sto) : m_is_span [.tup xs] S = .ok (.bl false) [] S := by
  unfold m_is_span
  rw [fnM_ap]
  have h1 : isiO ty_tuple S (.tup xs) = some true := rfl
  have h2 : ¬ (xs.length : Int) = 4 := by omega
  simp [b_is_span_0, b_is_span_1, h1, h2]
theorem is_span_not {d : D} (h : plainD d = true) (h0 : isiO ty_tuple [] d = some false) (hn : isNoneD d = false) (S : Sto) : m_is_span [d] S = .ok (.bl false) [] S := by
  unfold m_is_span
  rw [fnM_ap]
  have h1 : isiO ty_tuple S d = some false := by cases d <;> first | exact h0 | cases h
  simp [b_is_span_0, b_is_span_1, h1, plain_gl h, hn]
end Mir.Sh
end

/-! ShCur -/
section
set_option linter.all false
/-! ShCur: what the Cursor reads. -/
namespace Mir.Sh
open Mir
abbrev Rd (α : Type) := Except (Int × String) α
def nextB (bs : List Nat) (k : Nat) : Rd (Nat × Nat) :=
  match bs[k]? with
  | none => .error (bs.length, "torn")
  | some b => if 128 ≤ b then .error (k, "inside") else .ok (b, k + 1)
def numL (bs : List Nat) : Nat → Nat → Nat → Nat → Rd (Nat × Nat)
  | 0, _, _, k => .error ((k : Int) - 1, "number")
  | n + 1, f, w, k => match nextB bs k with
    | .error e => .error e
    | .ok (b, k') => if b < 64 then .ok (f + b * w, k') else numL bs n (f + b % 64 * w) (w * 64) k'
def curOb (bs : List Nat) (k : Nat) : Ob := .ins "Cursor" [("source", .byt bs), ("at", .int (k : Int))]
@[simp] theorem clsO_cur (bs : List Nat) (k : Nat) : clsO (some (curOb bs k)) = some ("Cursor", [("source", .byt bs), ("at", .int (k : Int))]) := id rfl
@[simp] theorem varO_cur (i j : Nat) (bs : List Nat) (k : Nat) (e : Env) (S : Sto) : varO i j (some (curOb bs k)) e S = .ok (.ref j) e S := id rfl
@[simp] theorem setO_cur (f : String) (cls : List String) (b i : Nat) (d : D) (bs : List Nat) (k : Nat) (e : Env) (S : Sto) : setO f cls b i d (some (curOb bs k)) e S = if cls.elem "Cursor" = true ∧ mayPut b i d = true then .ok .nx e (S.set i (.ins "Cursor" (putD f d [("source", .byt bs), ("at", .int (k : Int))]))) else .stuck := by
  unfold curOb
  rw [setO_ins]
  simp
@[simp] theorem augFO_cur (f : String) (cls : List String) (op : D → D → Option D) (v : SE) (b i : Nat) (bs : List Nat) (k : Nat) (e : Env) (S : Sto) : augFO f cls op v b i (some (curOb bs k)) e S = augFP f cls op v b i "Cursor" ([("source", D.byt bs), ("at", .int (k : Int))].lookup f) e S := id rfl
@[simp] theorem augFQ_cur (f : String) (b i : Nat) (c : String) (z : D) (bs : List Nat) (k : Nat) (e : Env) (S : Sto) : augFQ f b i c (some z) (some (curOb bs k)) e S = if mayPut b i z = true ∧ "Cursor" = c then .ok .nx e (S.set i (.ins "Cursor" (putD f z [("source", .byt bs), ("at", .int (k : Int))]))) else .stuck := by
  unfold curOb
  rw [augFQ_some]
  simp
def errF (e : Int × String) : List (String × D) := [("why", .str (cps e.2)), ("at", .int e.1)]
/-- what a method of a Cursor answers -/
def CurSp {α : Type} (r : R D) (S : Sto) (i : Nat) (bs : List Nat) (f : α → D) (m : Rd (α × Nat)) : Prop := match m with
  | .ok (a, k) => r = .ok (f a) [] (S.set i (curOb bs k))
  | .error e => ∃ k, r = .exc "BadTable" (errF e) [] (S.set i (curOb bs k))
theorem idx_byt (S : Sto) (bs : List Nat) (k : Nat) (hl : bs.length ≤ 16777216) (hk : k < bs.length) : idxS S (.byt bs) (.int (k : Int)) = some (.int (bs[k] : Nat)) := by
  rw [idxS_ap]
  show idxD (.byt bs) _ = _
  have : (bs.length ≤ line ∧ 0 ≤ (k : Int) ∧ (k : Int) < bs.length) := ⟨hl, by omega, by omega⟩
  simp only [idxD, this, and_self, if_true]
  simp [hk]
theorem cur_fold (bs : List Nat) (k : Nat) : Ob.ins "Cursor" [("source", .byt bs), ("at", .int (k : Int))] = curOb bs k := rfl
theorem idx_cur (S : Sto) (bs : List Nat) (k : Nat) (hl : bs.length ≤ 16777216) (hk : k < bs.length) : idxD (.byt bs) (k : Int) = some (.int (bs[k] : Nat)) := by
  have := idx_byt S bs k hl hk
  rwa [idxS_ap] at this
theorem next_byte_sp (S : Sto) (i : Nat) (bs : List Nat) (k : Nat) (hi : i < S.length) (hl : bs.length ≤ 16777216) :
    CurSp (m_Cursor_next_byte [.ref i] (S.set i (curOb bs k))) S i bs (fun n : Nat => .int n) (nextB bs k) := by
  unfold m_Cursor_next_byte
  rw [fnM_ap]
  unfold nextB
  by_cases h : k < bs.length
  · have h1 : ¬ bs.length ≤ k := by omega
    have g := idx_cur S bs k hl h
    by_cases h2 : 128 ≤ bs[k]
    · simp [h, h2, CurSp]
      refine ⟨k, ?_⟩
      simp [b_Cursor_next_byte_0, b_Cursor_next_byte_1, b_Cursor_next_byte_2, hi, h1, hl, h2, g, h, errF]
    · simp [h, h2, CurSp]
      have a := cur_fold bs (k + 1)
      simp at a
      simp [b_Cursor_next_byte_0, b_Cursor_next_byte_1, b_Cursor_next_byte_2, b_Cursor_next_byte_3, hi, h1, hl, h2, g, h, a]
  · have h1 : bs.length ≤ k := by omega
    simp [h1, CurSp]
    refine ⟨k, ?_⟩
    simp [b_Cursor_next_byte_0, hi, h1, hl, errF]
/-- the two ways of a reading -/
theorem CurSp.inv {α : Type} {r : R D} {S : Sto} {i : Nat} {bs : List Nat} {f : α → D} {m : Rd (α × Nat)} (h : CurSp r S i bs f m) :
    (∃ a k, m = .ok (a, k) ∧ r = .ok (f a) [] (S.set i (curOb bs k))) ∨ ∃ e k, m = .error e ∧ r = .exc "BadTable" (errF e) [] (S.set i (curOb bs k)) := by
  cases m with
  | ok p => exact .inl ⟨p.1, p.2, rfl, h⟩
  | error e => obtain ⟨k, h⟩ := h; exact .inr ⟨e, k, rfl, h⟩
@[simp] theorem curSp_ok {α : Type} (r : R D) (S : Sto) (i : Nat) (bs : List Nat) (f : α → D) (a : α) (k : Nat) : CurSp r S i bs f (.ok (a, k)) ↔ r = .ok (f a) [] (S.set i (curOb bs k)) := Iff.rfl
@[simp] theorem curSp_err {α : Type} (r : R D) (S : Sto) (i : Nat) (bs : List Nat) (f : α → D) (e : Int × String) : CurSp r S i bs f (.error e : Rd (α × Nat)) ↔ ∃ k, r = .exc "BadTable" (errF e) [] (S.set i (curOb bs k)) := Iff.rfl
@[simp] theorem limF_err (n : Nat) (e : Int × String) : limF n (errF e) = true := by simp [errF]
def numO (bs : List Nat) : Nat → Nat → Nat → Nat → Rd (Option Nat × Nat)
  | 0, _, _, k => .ok (none, k)
  | n + 1, f, w, k => match nextB bs k with
    | .error e => .error e
    | .ok (b, k') => if b < 64 then .ok (some (f + b * w), k') else numO bs n (f + b % 64 * w) (w * 64) k'
def number (bs : List Nat) (k : Nat) : Rd (Nat × Nat) := match numO bs 8 0 1 k with
  | .error e => .error e
  | .ok (some n, k') => .ok (n, k')
  | .ok (none, k') => .error ((k' : Int) - 1, "number")
def NumSp (r : R Fl) (S : Sto) (i : Nat) (bs : List Nat) (m : Rd (Option Nat × Nat)) : Prop := match m with
  | .ok (some n, k) => ∃ e, r = .ok (.ret (.int (n : Nat))) e (S.set i (curOb bs k))
  | .ok (none, k) => ∃ x y z u, r = .ok .nx [some (.ref i), x, y, z, u] (S.set i (curOb bs k))
  | .error er => ∃ e k, r = .exc "BadTable" (errF er) e (S.set i (curOb bs k))
/-- the turns of number -/
theorem num_loop (S : Sto) (i : Nat) (bs : List Nat) (b : Nat) (hi : i < S.length) (hl : bs.length ≤ 16777216) : ∀ (ds : List D) (f w k : Nat) (x y : Option D),
    NumSp (loopM (gnM 3) l_Cursor_number_0 b ds [some (.ref i), some (.int f), some (.int w), x, y] (S.set i (curOb bs k))) S i bs (numO bs ds.length f w k) := by
  intro ds
  induction ds with
  | nil => intro f w k x y; exact ⟨_, _, _, _, rfl⟩
  | cons d ds ih =>
    intro f w k x y
    rw [loopM_cons]
    show NumSp _ S i bs (numO bs (ds.length + 1) f w k)
    rw [numO]
    rcases (next_byte_sp S i bs k hi hl).inv with ⟨n, k', e1, e2⟩ | ⟨e, k', e1, e2⟩
    · rw [e1]
      dsimp only
      by_cases h : n < 64
      · rw [if_pos h]
        simp [l_Cursor_number_0, hi, e2, h]
        have h1 : mulOk (n : Int) (w : Int) = true := mulOk_l _ ⟨by simp [two64]; omega, by simp [two64]; omega⟩
        simp [h1]
        exact ⟨_, rfl⟩
      · rw [if_neg h]
        have h1 : mulOk ((n % 64 : Nat) : Int) (w : Int) = true := mulOk_l _ ⟨by simp [two64]; omega, by simp [two64]; omega⟩
        have := ih (f + n % 64 * w) (w * 64) k' (some d) (some (.int n))
        simp at h1 this
        simp [l_Cursor_number_0, l_Cursor_number_0_1, l_Cursor_number_0_2, hi, e2, h, h1]
        exact this
    · rw [e1]
      simp [l_Cursor_number_0, hi, e2]
      exact ⟨_, _, rfl⟩
theorem number_sp (S : Sto) (i : Nat) (bs : List Nat) (k : Nat) (hi : i < S.length) (hl : bs.length ≤ 16777216) :
    CurSp (m_Cursor_number [.ref i] (S.set i (curOb bs k))) S i bs (fun n : Nat => .int n) (number bs k) := by
  have h := num_loop S i bs S.length hi hl ((List.range 8).map fun (j : Nat) => .int (0 + (j : Int))) 0 1 k none none
  unfold m_Cursor_number
  rw [fnM_ap]
  have hr : rngI 0 8 = some ((List.range 8).map fun (j : Nat) => .int (0 + (j : Int))) := rfl
  have hz : ((List.range 8).map fun (j : Nat) => D.int (0 + (j : Int))).length = 8 := rfl
  rw [hz] at h
  unfold number
  generalize hm : numO bs 8 0 1 k = m at h
  generalize ((List.range 8).map fun (j : Nat) => D.int (0 + (j : Int))) = ds at h hr
  match m with
  | .ok (some n, k') =>
    obtain ⟨e, h⟩ := h
    simp at h
    simp [b_Cursor_number_0, b_Cursor_number_1, b_Cursor_number_2, hr, h]
  | .ok (none, k') =>
    obtain ⟨x, y, z, u, h⟩ := h
    simp at h
    simp [b_Cursor_number_0, b_Cursor_number_1, b_Cursor_number_2, b_Cursor_number_3, hr, h, hi, errF]
    exact ⟨_, rfl⟩
  | .error er =>
    obtain ⟨e, k', h⟩ := h
    simp at h
    simp [b_Cursor_number_0, b_Cursor_number_1, b_Cursor_number_2, hr, h]
    exact ⟨_, rfl⟩
def unfoldN (n : Nat) : Int := if n % 2 = 0 then (n / 2 : Nat) else -((n / 2 : Nat) : Int)
def signed (bs : List Nat) (k : Nat) : Rd (Int × Nat) := match number bs k with
  | .error e => .error e
  | .ok (n, k') => .ok (unfoldN n, k')
theorem signed_sp (S : Sto) (i : Nat) (bs : List Nat) (k : Nat) (hi : i < S.length) (hl : bs.length ≤ 16777216) :
    CurSp (m_Cursor_signed [.ref i] (S.set i (curOb bs k))) S i bs D.int (signed bs k) := by
  unfold m_Cursor_signed
  rw [fnM_ap]
  unfold signed
  rcases (number_sp S i bs k hi hl).inv with ⟨n, k', e1, e2⟩ | ⟨e, k', e1, e2⟩
  · rw [e1]
    simp only [curSp_ok]
    by_cases h : n % 2 = 0
    · have h' : (n : Int) % 2 = 0 := by omega
      simp [b_Cursor_signed_0, b_Cursor_signed_1, hi, e2, unfoldN, h, h']
    · have h' : ¬ (n : Int) % 2 = 0 := by omega
      simp [b_Cursor_signed_0, b_Cursor_signed_1, hi, e2, unfoldN, h, h']
  · rw [e1]
    simp [b_Cursor_signed_0, b_Cursor_signed_1, hi, e2]
    exact ⟨_, rfl⟩
def mcol (n : Nat) : D := if n = 0 then .non else .int ((n : Int) - 1)
theorem maybe_column_eq (n : Nat) (S : Sto) : m_maybe_column [.int n] S = .ok (mcol n) [] S := by
  unfold m_maybe_column
  rw [fnM_ap]
  by_cases h : n = 0
  · simp [b_maybe_column_0, h, mcol]
  · simp [b_maybe_column_0, h, mcol]
abbrev Raw := Int × Int × D × D
def rawD (r : Raw) : D := .tup [.int r.1, .int r.2.1, r.2.2.1, r.2.2.2]
def rawSpan (bs : List Nat) (form : Nat) (line : Int) (k : Nat) : Rd (Raw × Nat) :=
  if form < 10 then match nextB bs k with
    | .error e => .error e
    | .ok (b, k) => .ok ((line, line, .int (8 * form + b / 16 : Nat), .int (8 * form + b / 16 + b % 16 : Nat)), k)
  else if form < 13 then match nextB bs k with
    | .error e => .error e
    | .ok (c, k) => match nextB bs k with
      | .error e => .error e
      | .ok (d, k) => .ok ((line + ((form : Int) - 10), line + ((form : Int) - 10), .int (c : Nat), .int (d : Nat)), k)
  else match signed bs k with
    | .error e => .error e
    | .ok (z, k) => if form = 13 then .ok ((line + z, line + z, .non, .non), k) else match number bs k with
      | .error e => .error e
      | .ok (m, k) => match number bs k with
        | .error e => .error e
        | .ok (c, k) => match number bs k with
          | .error e => .error e
          | .ok (d, k) => .ok ((line + z, line + z + (m : Nat), mcol c, mcol d), k)
theorem mcol_lim (n c : Nat) : (mcol c).lim n = true := by unfold mcol; split <;> simp
theorem mcol_nr (c : Nat) : (mcol c).isRef = false := by unfold mcol; split <;> simp
theorem raw_span_sp (S : Sto) (i : Nat) (bs : List Nat) (form : Nat) (line : Int) (k : Nat) (hi : i < S.length) (hl : bs.length ≤ 16777216) (hf : form < 15) :
    CurSp (m_raw_span [.ref i, .int form, .int line] (S.set i (curOb bs k))) S i bs rawD (rawSpan bs form line k) := by
  unfold m_raw_span
  rw [fnM_ap]
  unfold rawSpan
  by_cases h10 : form < 10
  · rw [if_pos h10]
    rcases (next_byte_sp S i bs k hi hl).inv with ⟨n, k1, e1, e2⟩ | ⟨e, k1, e1, e2⟩
    · rw [e1]
      simp [b_raw_span_0, hi, e2, h10, rawD]
    · rw [e1]
      simp [b_raw_span_0, hi, e2, h10]
      exact ⟨_, rfl⟩
  · rw [if_neg h10]
    by_cases h13 : form < 13
    · rw [if_pos h13]
      rcases (next_byte_sp S i bs k hi hl).inv with ⟨n, k1, e1, e2⟩ | ⟨e, k1, e1, e2⟩
      · rw [e1]
        dsimp only
        rcases (next_byte_sp S i bs k1 hi hl).inv with ⟨n2, k2, e3, e4⟩ | ⟨e, k2, e3, e4⟩
        · rw [e3]
          simp [b_raw_span_0, b_raw_span_1, hi, e2, e4, h10, h13, rawD]
        · rw [e3]
          simp [b_raw_span_0, b_raw_span_1, hi, e2, e4, h10, h13]
          exact ⟨_, rfl⟩
      · rw [e1]
        simp [b_raw_span_0, b_raw_span_1, hi, e2, h10, h13]
        exact ⟨_, rfl⟩
    · rw [if_neg h13]
      rcases (signed_sp S i bs k hi hl).inv with ⟨n, k1, e1, e2⟩ | ⟨e, k1, e1, e2⟩
      · rw [e1]
        dsimp only
        by_cases h14 : form = 13
        · rw [if_pos h14]
          simp [b_raw_span_0, b_raw_span_1, b_raw_span_2, b_raw_span_3, hi, e2, h10, h13, h14, rawD]
        · rw [if_neg h14]
          rcases (number_sp S i bs k1 hi hl).inv with ⟨m, k2, e3, e4⟩ | ⟨e, k2, e3, e4⟩
          · rw [e3]
            dsimp only
            rcases (number_sp S i bs k2 hi hl).inv with ⟨c, k3, e5, e6⟩ | ⟨e, k3, e5, e6⟩
            · rw [e5]
              dsimp only
              rcases (number_sp S i bs k3 hi hl).inv with ⟨d, k4, e7, e8⟩ | ⟨e, k4, e7, e8⟩
              · rw [e7]
                simp [b_raw_span_0, b_raw_span_1, b_raw_span_2, b_raw_span_3, b_raw_span_4, b_raw_span_5, b_raw_span_6, hi, e2, e4, e6, e8, h10, h13, h14, rawD, maybe_column_eq, mcol_lim, mcol_nr]
              · rw [e7]
                simp [b_raw_span_0, b_raw_span_1, b_raw_span_2, b_raw_span_3, b_raw_span_4, b_raw_span_5, b_raw_span_6, hi, e2, e4, e6, e8, h10, h13, h14, maybe_column_eq, mcol_lim, mcol_nr]
                exact ⟨_, rfl⟩
            · rw [e5]
              simp [b_raw_span_0, b_raw_span_1, b_raw_span_2, b_raw_span_3, b_raw_span_4, b_raw_span_5, hi, e2, e4, e6, h10, h13, h14]
              exact ⟨_, rfl⟩
          · rw [e3]
            simp [b_raw_span_0, b_raw_span_1, b_raw_span_2, b_raw_span_3, b_raw_span_4, hi, e2, e4, h10, h13, h14]
            exact ⟨_, rfl⟩
      · rw [e1]
        simp [b_raw_span_0, b_raw_span_1, b_raw_span_2, hi, e2, h10, h13]
        exact ⟨_, rfl⟩
end Mir.Sh
end

/-! ShDraw -/
section
set_option linter.all false
/-! ShDraw: what the drawing defs compute. -/
namespace Mir.Sh
open Mir
/-- a well: its number, how often it was asked -/
def wellOb (p : Int × Int) : Ob := .lst false [.int p.1, .int p.2]
theorem well_eq (c : Int) (S : Sto) : m__law_well [.int c] S = .ok (.ref S.length) [] (S ++ [wellOb (c, 0)]) := by
  unfold m__law_well
  rw [fnM_ap]
  simp [b__law_well_0, wellOb, line_big]
def drN (p : Int × Int) : Int := ((p.1 % 2147483629 + 60013 * (p.2 + 1) + 11) * 48271) % 2147483647
def drM (p : Int × Int) : Int := drN p * (drN p / 1013 + 40692 + p.1 / 2147483629 % 9973) % 2147483587
def dr (p : Int × Int) (many : Int) : Int := if 10 ^ 18 ≤ p.1 then p.1 % many else (drM p * (drM p / 2003 + 69621)) % 2147483563 / 5 % many
def dw (p : Int × Int) (many : Int) : Int × Int := if 10 ^ 18 ≤ p.1 then (p.1 / many, p.2) else (p.1, p.2 + 1)
theorem draw_eq {S : Sto} {i : Nat} {p : Int × Int} {many : Int} (h : S[i]? = some (wellOb p)) (hm : 0 < many ∧ many < two64) :
    m__law_draw [.ref i, .int many] S = .ok (.int (dr p many)) [] (S.set i (wellOb (dw p many))) := by
  obtain ⟨a, n⟩ := p
  unfold wellOb at h
  unfold m__law_draw
  rw [fnM_ap]
  have d1 := deref_at h
  obtain ⟨hm1, hm2⟩ := hm
  rw [two64_big] at hm2
  by_cases ha : (10 : Int) ^ 18 ≤ a
  · have ha' : (1000000000000000000 : Int) ≤ a := ha
    simp [b__law_draw_0, d1, h, ix_nat, ixD, ha', hm1, hm2, dr, dw, two64_big, wellOb]
  · have ha' : ¬ (1000000000000000000 : Int) ≤ a := ha
    have h2 : (S.set i (Ob.lst false [.int a, .int (n + 1)]))[i]? = some (.lst false [.int a, .int (n + 1)]) := set_at h
    have d2 := deref_at h2
    simp [b__law_draw_0, b__law_draw_1, b__law_draw_2, b__law_draw_3, b__law_draw_4, b__law_draw_5, d1, d2, h, ix_nat, ixD, ha', hm1, hm2, dr, dw, drM, drN, two64_big, wellOb]
theorem dr_lo (p : Int × Int) {many : Int} (hm : 0 < many) : 0 ≤ dr p many := by
  unfold dr
  split <;> exact Int.emod_nonneg _ (by omega)
theorem dr_hi (p : Int × Int) {many : Int} (hm : 0 < many) : dr p many < many := by
  unfold dr
  split <;> exact Int.emod_lt_of_pos _ hm
@[simp] theorem varO_well (i j : Nat) (p : Int × Int) (e : Env) (S : Sto) : varO i j (some (wellOb p)) e S = .ok (.ref j) e S := rfl
@[simp] theorem draw_set (S : Sto) (i : Nat) (p : Int × Int) (many : Int) (hi : i < S.length) (h1 : 0 < many) (h2 : many < 18446744073709551616) :
    m__law_draw [.ref i, .int many] (S.set i (wellOb p)) = .ok (.int (dr p many)) [] (S.set i (wellOb (dw p many))) := by
  rw [draw_eq (List.getElem?_set_self hi) ⟨h1, h2⟩, List.set_set]
theorem getD_mem {xs : List D} {k : Nat} (h : k < xs.length) : xs.getD k .non ∈ xs := by
  rw [List.getD_eq_getElem?_getD, List.getElem?_eq_getElem h]
  exact List.getElem_mem h
theorem limL_all {n : Nat} {xs : List D} (h : limL n xs = true) {d : D} (hd : d ∈ xs) : d.lim n = true := by
  obtain ⟨i, hi, e⟩ := List.getElem_of_mem hd
  exact limL_get h (List.getElem?_eq_some_iff.mpr ⟨hi, e⟩)
theorem dr_nat (p : Int × Int) {n : Nat} (hn : 0 < n) : (dr p (n : Int)).toNat < n := by
  have a := dr_lo p (many := (n : Int)) (by omega)
  have b := dr_hi p (many := (n : Int)) (by omega)
  omega
theorem one_set' (S : Sto) (i : Nat) (p : Int × Int) (xs : List D) (hi : i < S.length) (hn : 0 < xs.length) (hl : xs.length ≤ 16777216) (hlim : limL S.length xs = true) :
    m__law_one [.ref i, .lst xs] (S.set i (wellOb p)) = .ok (xs.getD (dr p xs.length).toNat .non) [] (S.set i (wellOb (dw p xs.length))) := by
  unfold m__law_one
  rw [fnM_ap]
  have a := dr_lo p (many := (xs.length : Int)) (by omega)
  have b := dr_hi p (many := (xs.length : Int)) (by omega)
  have c := dr_nat p hn
  have h1 : (0 : Int) < (xs.length : Int) := by omega
  have h2 : (xs.length : Int) < 18446744073709551616 := by omega
  have g : xs[(dr p xs.length).toNat]? = some (xs.getD (dr p xs.length).toNat .non) := by
    rw [List.getD_eq_getElem?_getD, List.getElem?_eq_getElem c]; rfl
  have l : (xs.getD (dr p xs.length).toNat .non).lim S.length = true := limL_all hlim (getD_mem c)
  generalize xs.getD (dr p xs.length).toNat .non = x at g l
  simp [b__law_one_0, ix_nat a b, draw_set S i p _ hi h1 h2, hi, g, l]
theorem one_inv {S : Sto} {i : Nat} {p : Int × Int} {xs : List D} {r : R D} (hr : m__law_one [.ref i, .lst xs] (S.set i (wellOb p)) = r) (hi : i < S.length) (hn : 0 < xs.length) (hl : xs.length ≤ 16777216) (hlim : limL S.length xs = true) :
    ∃ x ∈ xs, ∃ q, r = .ok x [] (S.set i (wellOb q)) := ⟨_, getD_mem (dr_nat p hn), _, by rw [← hr, one_set' S i p xs hi hn hl hlim]⟩
/-- the store, but for the well -/
def WellAt (S' S : Sto) (i : Nat) : Prop := ∃ q, S' = S.set i (wellOb q)
@[simp] theorem wellAt_mk (S : Sto) (i : Nat) (q : Int × Int) : WellAt (S.set i (wellOb q)) S i := ⟨q, rfl⟩
/-- what a def answers, over a well -/
@[irreducible] def Gives (r : R D) (S : Sto) (i : Nat) (P : D → Prop) : Prop := match r with
  | .ok d e S' => e = [] ∧ WellAt S' S i ∧ P d
  | _ => False
@[simp] theorem gives_ok (d : D) (S : Sto) (i : Nat) (q : Int × Int) (P : D → Prop) : Gives (.ok d [] (S.set i (wellOb q))) S i P ↔ P d := by unfold Gives; simp
theorem Gives.inv {r : R D} {S : Sto} {i : Nat} {P : D → Prop} (h : Gives r S i P) : ∃ d q, r = .ok d [] (S.set i (wellOb q)) ∧ P d := by
  unfold Gives at h
  cases r with
  | ok d e S' =>
    obtain ⟨rfl, ⟨q, rfl⟩, h⟩ := h
    exact ⟨d, q, rfl, h⟩
  | exc c fs e S' => exact h.elim
  | stuck => exact h.elim
def IntIn (lo hi : Int) (d : D) : Prop := ∃ v : Int, d = .int v ∧ lo ≤ v ∧ v ≤ hi
@[simp] theorem intIn_int (lo hi v : Int) : IntIn lo hi (.int v) ↔ lo ≤ v ∧ v ≤ hi := ⟨fun ⟨_, e, h⟩ => by cases e; exact h, fun h => ⟨v, rfl, h⟩⟩
theorem line_sp (S : Sto) (i : Nat) (p : Int × Int) (near : Int) (hi : i < S.length) : Gives (m__law_line [.ref i, .int near] (S.set i (wellOb p))) S i (IntIn 1 2147483647) := by
  unfold m__law_line
  rw [fnM_ap]
  by_cases h : dr p 8 < 5
  · simp [b__law_line_0, b__law_line_1, hi, h]
    omega
  · have a1 := dr_lo (dw p 8) (many := 200) (by omega)
    have a2 := dr_hi (dw p 8) (many := 200) (by omega)
    have a3 := dr_lo (dw (dw p 8) 200) (many := 2147483647) (by omega)
    have a4 := dr_hi (dw (dw p 8) 200) (many := 2147483647) (by omega)
    simp [b__law_line_0, b__law_line_1, b__law_line_2, hi, h, line_big]
    generalize hr : m__law_one _ _ = r
    obtain ⟨x, hx, q, rfl⟩ := one_inv hr hi (by simp) (by simp) (by simp)
    simp only [List.mem_cons, List.not_mem_nil, or_false] at hx
    rcases hx with rfl | rfl | rfl | rfl <;> simp <;> omega
theorem column_sp (S : Sto) (i : Nat) (p : Int × Int) (hi : i < S.length) : Gives (m__law_column [.ref i] (S.set i (wellOb p))) S i (IntIn 0 2147483647) := by
  unfold m__law_column
  rw [fnM_ap]
  have a1 := dr_lo p (many := 12) (by omega)
  have a2 := dr_hi p (many := 12) (by omega)
  have a3 := dr_lo (dw p 12) (many := 82) (by omega)
  have a4 := dr_hi (dw p 12) (many := 82) (by omega)
  have a5 := dr_lo (dw (dw p 12) 82) (many := 131) (by omega)
  have a6 := dr_hi (dw (dw p 12) 82) (many := 131) (by omega)
  have a7 := dr_lo (dw (dw (dw p 12) 82) 131) (many := 9) (by omega)
  have a8 := dr_hi (dw (dw (dw p 12) 82) 131) (many := 9) (by omega)
  simp [b__law_column_0, b__law_column_1, hi, line_big]
  generalize hr : m__law_one _ _ = r
  obtain ⟨x, hx, q, rfl⟩ := one_inv hr hi (by simp) (by simp) (by simp)
  simp only [List.mem_cons, List.not_mem_nil, or_false] at hx
  rcases hx with rfl | rfl | rfl | rfl <;> simp <;> omega
/-- a span that keeps the rules -/
def SpanD (d : D) : Prop := d = .non ∨ (∃ l : Int, d = .tup [.int l, .int l, .non, .non] ∧ 1 ≤ l ∧ l ≤ 2147483647) ∨
  ∃ l k c b : Int, d = .tup [.int l, .int k, .int c, .int b] ∧ (1 ≤ l ∧ l ≤ k ∧ k ≤ 2147483647) ∧ (0 ≤ c ∧ c ≤ 2147483647) ∧ (0 ≤ b ∧ b ≤ 2147483647) ∧ (l < k ∨ c ≤ b)
@[simp] theorem spanD_non : SpanD .non := .inl rfl
@[simp] theorem spanD_two (l : Int) : SpanD (.tup [.int l, .int l, .non, .non]) ↔ 1 ≤ l ∧ l ≤ 2147483647 := by
  constructor
  · rintro (h | ⟨k, e, h⟩ | ⟨_, _, _, _, e, _⟩)
    · cases h
    · cases e; exact h
    · cases e
  · exact fun h => .inr (.inl ⟨l, rfl, h⟩)
@[simp] theorem spanD_four (l k c b : Int) : SpanD (.tup [.int l, .int k, .int c, .int b]) ↔ (1 ≤ l ∧ l ≤ k ∧ k ≤ 2147483647) ∧ (0 ≤ c ∧ c ≤ 2147483647) ∧ (0 ≤ b ∧ b ≤ 2147483647) ∧ (l < k ∨ c ≤ b) := by
  constructor
  · rintro (h | ⟨k, e, h⟩ | ⟨_, _, _, _, e, h⟩)
    · cases h
    · cases e
    · cases e; exact h
  · exact fun h => .inr (.inr ⟨l, k, c, b, rfl, h⟩)
theorem span_sp (S : Sto) (i : Nat) (p : Int × Int) (near : Int) (hi : i < S.length) : Gives (m__law_span [.ref i, .int near] (S.set i (wellOb p))) S i SpanD := by
  unfold m__law_span
  rw [fnM_ap]
  by_cases h0 : dr p 8 = 0
  · simp [b__law_span_0, b__law_span_1, hi, h0]
  obtain ⟨v, q, e1, l, rfl, hl⟩ := (line_sp S i (dw p 8) near hi).inv
  by_cases h1 : dr p 8 = 1
  · simp [b__law_span_0, b__law_span_1, b__law_span_2, b__law_span_3, hi, h0, h1, e1]
    exact hl
  obtain ⟨v, q2, e2, c, rfl, hc⟩ := (column_sp S i q hi).inv
  obtain ⟨x, hx, q3, e3⟩ := one_inv (r := _) (p := q2) (xs := [.int 17, .int 40, .int 130, .int 1000000]) rfl hi (by simp) (by simp) (by simp)
  obtain ⟨m, rfl, hm1, hm2⟩ : ∃ m : Int, x = .int m ∧ 0 < m ∧ m < 18446744073709551616 := by
    simp only [List.mem_cons, List.not_mem_nil, or_false] at hx
    rcases hx with rfl | rfl | rfl | rfl <;> exact ⟨_, rfl, by omega, by omega⟩
  have b1 := dr_lo q3 (many := m) hm1
  by_cases h5 : 5 < dr p 8
  · obtain ⟨y, hy, q4, e4⟩ := one_inv (r := _) (p := dw (dw (dw q3 m) 70) 1000000) (xs := [.int 1, .int (dr (dw q3 m) 70), .int (dr (dw (dw q3 m) 70) 1000000)]) rfl hi (by simp) (by simp) (by simp)
    have a1 := dr_lo (dw q3 m) (many := 70) (by omega)
    have a2 := dr_lo (dw (dw q3 m) 70) (many := 1000000) (by omega)
    obtain ⟨z, rfl, hz⟩ : ∃ z : Int, y = .int z ∧ 0 ≤ z := by
      simp only [List.mem_cons, List.not_mem_nil, or_false] at hy
      rcases hy with rfl | rfl | rfl <;> exact ⟨_, rfl, by omega⟩
    obtain ⟨v, q5, e5, c2, rfl, hc2⟩ := (column_sp S i q4 hi).inv
    simp [b__law_span_0, b__law_span_1, b__law_span_2, b__law_span_3, b__law_span_4, b__law_span_5, b__law_span_6, b__law_span_7, hi, h0, h1, e1, e2, e3, e4, hm1, hm2, h5, line_big]
    by_cases hg : l < (if l + z < 2147483647 then l + z else 2147483647)
    · simp [b__law_span_8, hi, hg, e5]
      omega
    · simp [b__law_span_8, b__law_span_9, hi, hg]
      omega
  · simp [b__law_span_0, b__law_span_1, b__law_span_2, b__law_span_3, b__law_span_4, b__law_span_5, b__law_span_6, b__law_span_7, b__law_span_8, b__law_span_9, hi, h0, h1, e1, e2, e3, hm1, hm2, h5]
    omega
/-! ### the same, the well laid last but some -/
@[simp] theorem drO_well (i : Nat) (p : Int × Int) : drO i (some (wellOb p)) = .lst [.int p.1, .int p.2] := id rfl
theorem draw_app (S : Sto) (p : Int × Int) (l : Sto) (many : Int) (h1 : 0 < many) (h2 : many < 18446744073709551616) : m__law_draw [.ref S.length, .int many] (S ++ wellOb p :: l) = .ok (.int (dr p many)) [] (S ++ wellOb (dw p many) :: l) := by
  rw [draw_eq (app_at S _ l) ⟨h1, h2⟩, app_set]
theorem one_app {S : Sto} {p : Int × Int} {l : Sto} {xs : List D} {r : R D} (hr : m__law_one [.ref S.length, .lst xs] (S ++ wellOb p :: l) = r) (hn : 0 < xs.length) (hl : xs.length ≤ 16777216) (hlim : limL (S ++ wellOb p :: l).length xs = true) :
    ∃ x ∈ xs, ∃ q, r = .ok x [] (S ++ wellOb q :: l) := by
  have e : S ++ wellOb p :: l = (S ++ wellOb p :: l).set S.length (wellOb p) := by rw [app_set]
  rw [e] at hr
  obtain ⟨x, hx, q, h⟩ := one_inv hr (by simp) hn hl hlim
  rw [app_set] at h
  exact ⟨x, hx, q, h⟩
theorem span_app (S : Sto) (p : Int × Int) (l : Sto) (near : Int) : ∃ d q, m__law_span [.ref S.length, .int near] (S ++ wellOb p :: l) = .ok d [] (S ++ wellOb q :: l) ∧ SpanD d := by
  have e : S ++ wellOb p :: l = (S ++ wellOb p :: l).set S.length (wellOb p) := by rw [app_set]
  obtain ⟨d, q, h, hd⟩ := (span_sp (S ++ wellOb p :: l) S.length p near (by simp)).inv
  rw [← e, app_set] at h
  exact ⟨d, q, h, hd⟩
end Mir.Sh
end

/-! ShEnt -/
section
set_option linter.all false
/-! ShEnt: read_entry, read_entries. -/
namespace Mir.Sh
open Mir
@[simp] theorem len_app1 {α : Type} (S : List α) (x : α) : (S ++ [x]).length - 1 = S.length := by simp
theorem Cursor_init_eq (S : Sto) (bs : List Nat) (k : Nat) : m_Cursor___init__ [.ref S.length, .byt bs, .int k] (S ++ [.ins "Cursor" []]) = .ok .non [] (S ++ [curOb bs k]) := by
  unfold m_Cursor___init__
  rw [iniM_ap]
  simp [b_Cursor___init___0, b_Cursor___init___1, mayPut, curOb]
structure Ent where
  at_ : Nat
  steps : Nat
  form : Nat
  span : D
  stop : Nat
def entD (e : Ent) : D := .ins "Entry" [("at", .int e.at_), ("steps", .int e.steps), ("form", .int e.form), ("span", e.span), ("end", .int e.stop)]
theorem Entry_init_eq (S : Sto) (a s f x : Nat) (d : D) (hd : d.isRef = false) :
    m_Entry___init__ [.ref S.length, .int a, .int s, .int f, d, .int x] (S ++ [.ins "Entry" []]) = .ok .non [] (S ++ [.ins "Entry" [("at", .int a), ("steps", .int s), ("form", .int f), ("span", d), ("end", .int x)]]) := by
  unfold m_Entry___init__
  rw [iniM_ap]
  simp [b_Entry___init___0, b_Entry___init___1, b_Entry___init___2, b_Entry___init___3, b_Entry___init___4, mayPut, hd]
@[simp] theorem frostF_nil (n : Nat) (S : Sto) : frostF n [] S = ([], S) := id rfl
@[simp] theorem frostF_nr (n : Nat) (f : String) (d : D) (fs : List (String × D)) (S : Sto) (h : d.isRef = false) : frostF n ((f, d) :: fs) S = ((f, d) :: (frostF n fs S).1, (frostF n fs S).2) := by
  cases d <;> first | rfl | cases h
theorem Entry_new (S : Sto) (e : Env) (a s f x : Nat) (d : D) (hd : d.isRef = false) (hl : d.lim 0 = true) :
    newR true e S (m_Entry___init__ [.ref S.length, .int a, .int s, .int f, d, .int x] (S ++ [.ins "Entry" []])) = .ok (entD ⟨a, s, f, d, x⟩) e S := by
  rw [Entry_init_eq S a s f x d hd]
  have := lim_mono (Nat.zero_le S.length) d hl
  simp [hd, this, entD]
def most : Int := 2147483647
/-- the checks behind the bytes -/
def rawOk (at_ : Nat) (r : Raw) : Rd Unit :=
  if ¬ (1 ≤ r.1 ∧ r.1 ≤ most) ∨ most < r.2.1 then .error (at_, "line") else if ordB r.1 r.2.1 r.2.2.1 r.2.2.2 = true then .ok () else .error (at_, "columns")
def readEntry (bs : List Nat) (at_ : Nat) (line : Int) : Rd Ent :=
  let b := bs.getD at_ 0
  if b < 128 then .error (at_, "start") else
  if b / 8 % 16 = 15 then .ok ⟨at_, b % 8 + 1, 15, .non, at_ + 1⟩ else
  match rawSpan bs (b / 8 % 16) line (at_ + 1) with
  | .error e => .error e
  | .ok (r, k) => match rawOk at_ r with
    | .error e => .error e
    | .ok _ => .ok ⟨at_, b % 8 + 1, b / 8 % 16, rawD r, k⟩
def RdSp {α : Type} (r : R D) (S : Sto) (f : α → D) (m : Rd α) : Prop := match m with
  | .ok a => r = .ok (f a) [] S
  | .error e => r = .exc "BadTable" (errF e) [] S
theorem plain_mcol (n : Nat) : plainD (mcol n) = true := by unfold mcol; split <;> simp
theorem raw_plain {bs : List Nat} {form : Nat} {line : Int} {k k' : Nat} {r : Raw} (h : rawSpan bs form line k = .ok (r, k')) : plainD r.2.2.1 = true ∧ plainD r.2.2.2 = true ∧ r.2.2.1.lim 0 = true ∧ r.2.2.2.lim 0 = true := by
  unfold rawSpan at h
  split at h
  · split at h <;> cases h; simp
  · split at h
    · split at h
      · cases h
      · split at h <;> cases h; simp
    · split at h
      · cases h
      · split at h
        · cases h; simp
        · split at h
          · cases h
          · split at h
            · cases h
            · split at h <;> cases h; simp [plain_mcol, mcol_lim]
theorem read_entry_sp (S : Sto) (bs : List Nat) (a : Nat) (line : Int) (hl : bs.length ≤ 16777216) (ha : a < bs.length) :
    RdSp (m_read_entry [.byt bs, .int a, .int line] S) S entD (readEntry bs a line) := by
  unfold m_read_entry
  rw [fnM_ap]
  have g := idx_cur S bs a hl ha
  have gd : bs.getD a 0 = bs[a] := by simp [ha]
  unfold readEntry
  rw [gd]
  dsimp only
  generalize bs[a] = b at g
  by_cases h1 : b < 128
  · rw [if_pos h1]
    simp [b_read_entry_0, g, h1, RdSp, errF]
  · rw [if_neg h1]
    have c := Cursor_init_eq S bs (a + 1)
    simp at c
    by_cases h2 : b / 8 % 16 = 15
    · rw [if_pos h2]
      have h2' : (b : Int) / 8 % 16 = 15 := by omega
      have n := fun e => Entry_new (S ++ [curOb bs (a + 1)]) e a (b % 8 + 1) 15 (a + 1) .non rfl rfl
      simp at n
      simp [b_read_entry_0, b_read_entry_1, b_read_entry_2, b_read_entry_3, b_read_entry_4, g, h1, h2, h2', RdSp, c, n]
      simp [entD]
    · rw [if_neg h2]
      have h2' : ¬ (b : Int) / 8 % 16 = 15 := by omega
      have hs : (S ++ [curOb bs (a + 1)]) = (S ++ [curOb bs (a + 1)]).set S.length (curOb bs (a + 1)) := by simp
      rcases (raw_span_sp (S ++ [curOb bs (a + 1)]) S.length bs (b / 8 % 16) line (a + 1) (by simp) hl (by omega)).inv with ⟨r, k, e1, e2⟩ | ⟨er, k, e1, e2⟩
      · rw [e1]
        dsimp only
        obtain ⟨p1, p2, p3, p4⟩ := raw_plain e1
        obtain ⟨l, u, x, y⟩ := r
        simp at e2 p1 p2 p3 p4
        have n := fun e => Entry_new (S ++ [curOb bs k]) e a (b % 8 + 1) (b / 8 % 16) k (rawD (l, u, x, y)) rfl (by simp [rawD, p3, p4])
        simp only [rawD] at n e2
        simp at n
        unfold rawOk
        dsimp only
        by_cases h3 : 1 ≤ l ∧ l ≤ most
        · by_cases h4 : most < u
          · rw [if_pos (.inr h4)]
            unfold most at h3 h4
            simp [b_read_entry_0, b_read_entry_1, b_read_entry_2, b_read_entry_3, b_read_entry_4, b_read_entry_5, b_read_entry_6, g, h1, h2, h2', RdSp, c, e2, rawD, h3, h4, errF]
          · rw [if_neg (fun q => q.elim (fun q => q h3) h4)]
            unfold most at h3 h4
            by_cases h5 : ordB l u x y = true
            · rw [if_pos h5]
              simp [b_read_entry_0, b_read_entry_1, b_read_entry_2, b_read_entry_3, b_read_entry_4, b_read_entry_5, b_read_entry_6, b_read_entry_7, b_read_entry_8, g, h1, h2, h2', RdSp, c, e2, n, h3, h4, h5, is_ordered_eq, p1, p2, n, rawD]
              simp [entD, lim_mono (Nat.zero_le _) _ p3, lim_mono (Nat.zero_le _) _ p4]
            · rw [if_neg h5]
              simp [b_read_entry_0, b_read_entry_1, b_read_entry_2, b_read_entry_3, b_read_entry_4, b_read_entry_5, b_read_entry_6, b_read_entry_7, g, h1, h2, h2', RdSp, c, e2, rawD, h3, h4, h5, is_ordered_eq, p1, p2, errF]
        · rw [if_pos (.inl h3)]
          unfold most at h3
          by_cases h6 : 1 ≤ l
          · have h7 : ¬ l ≤ 2147483647 := fun h7 => h3 ⟨h6, h7⟩
            simp [b_read_entry_0, b_read_entry_1, b_read_entry_2, b_read_entry_3, b_read_entry_4, b_read_entry_5, b_read_entry_6, g, h1, h2, h2', RdSp, c, e2, rawD, h6, h7, errF]
          · simp [b_read_entry_0, b_read_entry_1, b_read_entry_2, b_read_entry_3, b_read_entry_4, b_read_entry_5, b_read_entry_6, g, h1, h2, h2', RdSp, c, e2, rawD, h6, errF]
      · rw [e1]
        simp at e2
        simp [b_read_entry_0, b_read_entry_1, b_read_entry_2, b_read_entry_3, b_read_entry_4, b_read_entry_5, g, h1, h2, h2', RdSp, c, e2]
/-- all entries of a table -/
def spanLine (d : D) (line : Int) : Int := match d with
  | .tup (.int l :: _) => l
  | _ => line
def readFrom (bs : List Nat) : Nat → Nat → Int → Rd (List Ent)
  | 0, _, _ => .ok []
  | n + 1, a, line => if a < bs.length then match readEntry bs a line with
      | .error e => .error e
      | .ok e => match readFrom bs n e.stop (spanLine e.span line) with
        | .error er => .error er
        | .ok es => .ok (e :: es)
    else .ok []
def readAll (bs : List Nat) (line : Int) : Rd (List Ent) := readFrom bs bs.length 0 line
theorem isNone_inv {d : D} (h : isNoneD d = true) : d = .non := by cases d <;> first | rfl | cases h
theorem nextB_ok {bs : List Nat} {k b k' : Nat} (h : nextB bs k = .ok (b, k')) : k' = k + 1 ∧ k' ≤ bs.length ∧ b < 128 := by
  unfold nextB at h
  split at h
  · cases h
  · rename_i x e
    split at h <;> cases h
    have := (List.getElem?_eq_some_iff.mp e).1
    omega
theorem numO_ok {bs : List Nat} : ∀ {n f w k k' : Nat} {o : Option Nat}, numO bs n f w k = .ok (o, k') → k ≤ k' ∧ (k < k' → k' ≤ bs.length) ∧ (o ≠ none → k < k')
  | 0, f, w, k, k', o, h => by cases h; exact ⟨Nat.le_refl _, fun h => absurd h (Nat.lt_irrefl _), fun h => absurd rfl h⟩
  | n + 1, f, w, k, k', o, h => by
    rw [numO] at h
    split at h
    · cases h
    · rename_i b k1 e
      have := nextB_ok e
      split at h
      · cases h; exact ⟨by omega, fun _ => by omega, fun _ => by omega⟩
      · have := numO_ok h
        refine ⟨by omega, fun _ => ?_, fun _ => by omega⟩
        by_cases h5 : k1 < k'
        · exact this.2.1 h5
        · omega
theorem number_ok {bs : List Nat} {k n k' : Nat} (h : number bs k = .ok (n, k')) : k < k' ∧ k' ≤ bs.length := by
  unfold number at h
  split at h
  · cases h
  · rename_i e
    cases h
    have := numO_ok e
    have h2 := this.2.2 (by simp)
    exact ⟨h2, this.2.1 h2⟩
  · cases h
theorem signed_ok {bs : List Nat} {k k' : Nat} {z : Int} (h : signed bs k = .ok (z, k')) : k < k' ∧ k' ≤ bs.length := by
  unfold signed at h
  split at h
  · cases h
  · rename_i e
    cases h
    exact number_ok e
theorem mcol_cases (n : Nat) : mcol n = .non ∨ ∃ i : Int, mcol n = .int i ∧ 0 ≤ i := by
  unfold mcol
  split
  · exact .inl rfl
  · exact .inr ⟨_, rfl, by omega⟩
theorem rawSpan_ok {bs : List Nat} {form : Nat} {line : Int} {k k' : Nat} {r : Raw} (h : rawSpan bs form line k = .ok (r, k')) : k < k' ∧ k' ≤ bs.length ∧ r.1 ≤ r.2.1 := by
  unfold rawSpan at h
  split at h
  · split at h
    · cases h
    · rename_i e; cases h; have := nextB_ok e; simp; omega
  · split at h
    · split at h
      · cases h
      · rename_i e
        split at h
        · cases h
        · rename_i e2; cases h; have := nextB_ok e; have := nextB_ok e2; simp; omega
    · split at h
      · cases h
      · rename_i e
        have := signed_ok e
        split at h
        · cases h; simp; omega
        · split at h
          · cases h
          · rename_i e2
            have := number_ok e2
            split at h
            · cases h
            · rename_i e3
              have := number_ok e3
              split at h
              · cases h
              · rename_i e4
                have := number_ok e4
                cases h
                simp; omega
theorem rawOk_span {bs : List Nat} {form : Nat} {line : Int} {k k' a : Nat} {r : Raw} (h : rawSpan bs form line k = .ok (r, k')) (h2 : rawOk a r = .ok ()) : SpanD (rawD r) := by
  have hp := raw_plain h
  have ho := (rawSpan_ok h).2.2
  obtain ⟨l, u, x, y⟩ := r
  simp only at ho hp
  unfold rawOk at h2
  split at h2
  · cases h2
  · rename_i h3
    split at h2
    · rename_i h4
      simp only [not_or, Classical.not_not, most] at h3
      obtain ⟨⟨b1, b2⟩, b3⟩ := h3
      simp only [rawD]
      unfold ordB at h4
      simp only at h4
      split at h4
      · rename_i h5
        have e := of_decide_eq_true h4
        subst e
        rw [isNone_inv h5.1, isNone_inv h5.2]
        simp; omega
      · simp only [Bool.and_eq_true, Bool.or_eq_true, decide_eq_true_eq] at h4
        obtain ⟨⟨g1, g2⟩, g3⟩ := h4
        obtain ⟨v, rfl⟩ := isInt_inv g1
        obtain ⟨w, rfl⟩ := isInt_inv g2
        simp [isInt] at g1 g2 g3
        simp
        omega
    · cases h2
theorem readEntry_ok {bs : List Nat} {a : Nat} {line : Int} {e : Ent} (ha : a < bs.length) (h : readEntry bs a line = .ok e) : a < e.stop ∧ e.stop ≤ bs.length ∧ SpanD e.span ∧ 1 ≤ e.steps ∧ e.steps ≤ 8 ∧ e.at_ = a := by
  unfold readEntry at h
  dsimp only at h
  split at h
  · cases h
  · split at h
    · cases h; simp; omega
    · split at h
      · cases h
      · rename_i e1
        split at h
        · cases h
        · rename_i e2
          cases h
          have := rawSpan_ok e1
          refine ⟨by dsimp only; omega, this.2.1, rawOk_span e1 e2, by dsimp only; omega, by dsimp only; omega, rfl⟩
@[simp] theorem spanD_nr {d : D} (h : SpanD d) : d.isRef = false := by
  rcases h with rfl | ⟨_, rfl, _⟩ | ⟨_, _, _, _, rfl, _⟩ <;> rfl
theorem spanD_lim {d : D} (h : SpanD d) (n : Nat) : d.lim n = true := by
  rcases h with rfl | ⟨_, rfl, _⟩ | ⟨_, _, _, _, rfl, _⟩ <;> simp
@[simp] theorem classOf_ent (S : Sto) (e : Ent) : classOf S (entD e) = some ("Entry", [("at", .int e.at_), ("steps", .int e.steps), ("form", .int e.form), ("span", e.span), ("end", .int e.stop)]) := id rfl
@[simp] theorem isRef_ent (e : Ent) : (entD e).isRef = false := id rfl
theorem read_loop (S : Sto) (bs : List Nat) (l0 : Option D) (b : Nat) (hb : b = S.length) (hl : bs.length ≤ 1000000) : ∀ (n a : Nat) (line : Int) (acc : List D) (x : Option D), bs.length - a ≤ n → acc.length ≤ a →
    match readFrom bs n a line with
    | .ok es => ∃ y z w, whileM (cmpT ltS (rawM 3) (fnA lenS (consA (rawM 0) nilA))) l_read_entries_0 b [some (.byt bs), l0, some (.ref S.length), some (.int a), some (.int line), x] (S ++ [.lst true acc])
        = .ok .nx [some (.byt bs), l0, some (.ref S.length), y, z, w] (S ++ [.lst true (acc ++ es.map entD)])
    | .error e => ∃ e' o, whileM (cmpT ltS (rawM 3) (fnA lenS (consA (rawM 0) nilA))) l_read_entries_0 b [some (.byt bs), l0, some (.ref S.length), some (.int a), some (.int line), x] (S ++ [.lst true acc])
        = .exc "BadTable" (errF e) e' (S ++ [o]) := by
  subst hb
  intro n
  have hl2 : bs.length ≤ 16777216 := by omega
  induction n with
  | zero =>
    intro a line acc x h1 h2
    rw [readFrom, whileM_ap]
    have h0 : ¬ a < bs.length := by omega
    refine ⟨some (.int a), some (.int line), x, ?_⟩
    simp [h0, hl2]
  | succ n ih =>
    intro a line acc x h1 h2
    rw [readFrom, whileM_ap]
    by_cases h0 : a < bs.length
    · rw [if_pos h0]
      have sp := read_entry_sp (S ++ [.lst true acc]) bs a line hl2 h0
      cases hr : readEntry bs a line with
      | error e =>
        rw [hr] at sp
        simp [RdSp] at sp
        refine ⟨[some (.byt bs), l0, some (.ref S.length), some (.int a), some (.int line), x], .lst true acc, ?_⟩
        simp [h0, hl2, l_read_entries_0, sp]
      | ok e =>
        rw [hr] at sp
        simp [RdSp] at sp
        obtain ⟨k1, k2, k3, k4, k5, k6⟩ := readEntry_ok h0 hr
        have ih' := ih e.stop (spanLine e.span line) (acc ++ [entD e]) (some (entD e)) (by omega) (by simp; omega)
        dsimp only
        have hn : acc.length < 16777216 := by omega
        have key : ∀ r, whileM (cmpT ltS (rawM 3) (fnA lenS (consA (rawM 0) nilA))) l_read_entries_0 S.length [some (.byt bs), l0, some (.ref S.length), some (.int e.stop), some (.int (spanLine e.span line)), some (entD e)] (S ++ [.lst true (acc ++ [entD e])]) = r →
          (((cmpT ltS (rawM 3) (fnA lenS (consA (rawM 0) nilA))) S.length [some (.byt bs), l0, some (.ref S.length), some (.int a), some (.int line), x] (S ++ [.lst true acc])).bnd fun k e S_1 => if k = true then (l_read_entries_0 S.length e S_1).bnd fun f e S_1 => whR f (cmpT ltS (rawM 3) (fnA lenS (consA (rawM 0) nilA))) l_read_entries_0 S.length e S_1 else .ok .nx e S_1) = r := by
          intro r hw
          rcases k3 with q | ⟨l, q, _⟩ | ⟨l, k, c, b, q, _⟩ <;> rw [q] at hw <;> simp [spanLine] at hw <;> simp [h0, hl2, l_read_entries_0, sp, l_read_entries_0_1, l_read_entries_0_2, l_read_entries_0_3, hn, q, hw]
        cases hf : readFrom bs n e.stop (spanLine e.span line) with
        | error er =>
          rw [hf] at ih'
          obtain ⟨e', o, w⟩ := ih'
          exact ⟨e', o, key _ w⟩
        | ok es =>
          rw [hf] at ih'
          obtain ⟨y, z, u, w⟩ := ih'
          refine ⟨y, z, u, (key _ w).trans ?_⟩
          simp
    · rw [if_neg h0]
      refine ⟨some (.int a), some (.int line), x, ?_⟩
      simp [h0, hl2]
theorem readFrom_all {bs : List Nat} : ∀ {n a : Nat} {line : Int} {es : List Ent}, readFrom bs n a line = .ok es → es.length ≤ bs.length - a ∧ ∀ e ∈ es, SpanD e.span ∧ 1 ≤ e.steps ∧ e.steps ≤ 8
  | 0, a, line, es, h => by cases h; simp
  | n + 1, a, line, es, h => by
    rw [readFrom] at h
    split at h
    · rename_i h0
      split at h
      · cases h
      · rename_i e he
        split at h
        · cases h
        · rename_i es' hes
          cases h
          obtain ⟨k1, k2, k3, k4, k5, k6⟩ := readEntry_ok h0 he
          obtain ⟨i1, i2⟩ := readFrom_all hes
          refine ⟨by simp; omega, ?_⟩
          intro x hx
          rcases List.mem_cons.mp hx with rfl | hx
          · exact ⟨k3, k4, k5⟩
          · exact i2 x hx
    · cases h; simp
theorem readAll_all {bs : List Nat} {line : Int} {es : List Ent} (h : readAll bs line = .ok es) : es.length ≤ bs.length ∧ ∀ e ∈ es, SpanD e.span ∧ 1 ≤ e.steps ∧ e.steps ≤ 8 := readFrom_all h
theorem limL_ents {es : List Ent} (h : ∀ e ∈ es, SpanD e.span ∧ 1 ≤ e.steps ∧ e.steps ≤ 8) (n : Nat) : limL n (es.map entD) = true := by
  rw [limL_mem]
  intro d hd
  obtain ⟨e, he, rfl⟩ := List.mem_map.mp hd
  simp [entD, spanD_lim (h e he).1]
theorem read_entries_sp (S : Sto) (bs : List Nat) (line : Int) (hl : bs.length ≤ 1000000) :
    RdSp (m_read_entries [.byt bs, .int line] S) S (fun es => .lst (es.map entD)) (readAll bs line) := by
  have h := read_loop S bs (some (.int line)) S.length rfl hl bs.length 0 line [] none (by omega) (by simp)
  unfold m_read_entries
  rw [fnM_ap]
  unfold readAll
  cases hr : readFrom bs bs.length 0 line with
  | error e =>
    rw [hr] at h
    obtain ⟨e', o, w⟩ := h
    simp at w
    simp [b_read_entries_0, b_read_entries_1, b_read_entries_2, b_read_entries_3, w, RdSp]
  | ok es =>
    rw [hr] at h
    obtain ⟨y, z, u, w⟩ := h
    simp at w
    have hL : limL S.length (es.map entD) = true := limL_ents (readFrom_all hr).2 _
    simp [b_read_entries_0, b_read_entries_1, b_read_entries_2, b_read_entries_3, b_read_entries_4, w, RdSp, hL]
end Mir.Sh
end

/-! ShTab -/
section
set_option linter.all false
/-! ShTab: what a Table is made of. -/
namespace Mir.Sh
open Mir
theorem want_line_eq {d : D} (h : plainD d = true) (hl : d.lim 0 = true) (S : Sto) : m_want_line [d] S = if isInt 1 2147483647 d = true then .ok .non [] S else .exc "BadLine" [("line", d)] [] S := by
  unfold m_want_line
  rw [fnM_ap]
  by_cases h1 : isInt 1 2147483647 d = true
  · simp [b_want_line_0, is_integer_eq, h, plain_nr h, h1]
  · simp [b_want_line_0, is_integer_eq, h, plain_nr h, h1, hl]
def isByteD : D → Bool
  | .byt _ => true
  | .lst xs => xs.all (isInt 0 255)
  | .frz xs => xs.all (isInt 0 255)
  | .tup xs => xs.all (isInt 0 255)
  | _ => false
def itemsD : D → List D
  | .lst xs => xs
  | .frz xs => xs
  | .tup xs => xs
  | _ => []
theorem boolsOf_map (f : D → Bool) (xs : List D) : boolsOf (xs.map fun d => .bl (f d)) = some (xs.map f) := by
  induction xs with
  | nil => rfl
  | cons x r ih => simp [boolsOf, ih]
theorem byte_comp (xs : List D) (hp : ∀ x ∈ xs, plainD x = true) (hl : xs.length ≤ 16777216) (b : Nat) (x0 : Option D) (S : Sto) :
    compL S.length [1] (ctN 1) yesT (callM m_is_integer 3 (consA (varM 1) (consA (cM (.int 0)) (consA (cM (.int 255)) nilA)))) b xs [x0, none] (S ++ [.lst true []]) = .ok () [x0, none] (S ++ [.lst true (xs.map fun d => .bl (isInt 0 255 d))]) := by
  have := compL_run (fun d => some (.bl (isInt 0 255 d))) (vs := [1]) (g := ctN 1) (t := yesT) (x := callM m_is_integer 3 (consA (varM 1) (consA (cM (.int 0)) (consA (cM (.int 255)) nilA)))) (b := b) (e := [x0, none]) (S := S) (w := true) xs [] (by simpa using hl) (by
    intro d hd acc
    have h := hp d hd
    simp [is_integer_eq, h, plain_nr h])
  rw [this]
  simp
theorem is_byte_data_eq {d : D} (h : plainD d = true) (hi : ∀ x ∈ itemsD d, plainD x = true) (hl : (itemsD d).length ≤ 16777216) (S : Sto) : m_is_byte_data [d] S = .ok (.bl (isByteD d)) [] S := by
  unfold m_is_byte_data
  rw [fnM_ap]
  cases d <;> first | (cases h; done) | skip
  case byt bs => simp [b_is_byte_data_0, isByteD]
  case lst xs =>
    have := byte_comp xs hi hl S.length (some (.lst xs)) S
    simp [b_is_byte_data_0, b_is_byte_data_1, isByteD, this, boolsOf_map]
  case frz xs =>
    have := byte_comp xs hi hl S.length (some (.frz xs)) S
    simp [b_is_byte_data_0, b_is_byte_data_1, isByteD, this, boolsOf_map]
  case tup xs =>
    have := byte_comp xs hi hl S.length (some (.tup xs)) S
    simp [b_is_byte_data_0, b_is_byte_data_1, isByteD, this, boolsOf_map]
  all_goals simp [b_is_byte_data_0, b_is_byte_data_1, isByteD]
/-- the bytes of byte data -/
theorem b8_all {xs : List D} (h : xs.all (isInt 0 255) = true) : ∃ bs, b8Of xs = some bs ∧ xs = nums bs ∧ bs.length = xs.length ∧ ∀ b ∈ bs, b < 256 := by
  induction xs with
  | nil => exact ⟨[], rfl, rfl, rfl, by simp⟩
  | cons x r ih =>
    rw [List.all_cons, Bool.and_eq_true] at h
    obtain ⟨v, rfl⟩ := isInt_inv h.1
    obtain ⟨bs, e1, e2, e3, e4⟩ := ih h.2
    have hv : 0 ≤ v ∧ v ≤ 255 := by simpa [isInt] using h.1
    refine ⟨v.toNat :: bs, ?_, ?_, ?_, ?_⟩
    · have : 0 ≤ v ∧ v < 256 := by omega
      simp only [b8Of, this, and_self, if_true, e1]; rfl
    · rw [nums_cons, ← e2]
      congr 2; omega
    · simp [e3]
    · intro b hb
      rcases List.mem_cons.mp hb with rfl | hb
      · omega
      · exact e4 b hb
theorem b8_nums {bs : List Nat} (h : ∀ b ∈ bs, b < 256) : b8Of (nums bs) = some bs := by
  induction bs with
  | nil => rfl
  | cons b r ih =>
    have hb : b < 256 := h b List.mem_cons_self
    have : 0 ≤ (b : Int) ∧ (b : Int) < 256 := by omega
    simp only [nums_cons, b8Of, this, and_self, if_true, ih fun x hx => h x (List.mem_cons_of_mem _ hx)]
    simp
/-- byte data and its bytes -/
def DataOf (d : D) (bs : List Nat) : Prop := (d = .byt bs ∨ d = .lst (nums bs) ∨ d = .frz (nums bs) ∨ d = .tup (nums bs)) ∧ ∀ b ∈ bs, b < 256
theorem isInt_nums {bs : List Nat} (h : ∀ b ∈ bs, b < 256) : (nums bs).all (isInt 0 255) = true := by
  rw [List.all_eq_true]
  intro x hx
  obtain ⟨b, hb, rfl⟩ := List.mem_map.mp hx
  have := h b hb
  simp [isInt]; omega
theorem DataOf.plain {d : D} {bs : List Nat} (h : DataOf d bs) : plainD d = true ∧ (∀ x ∈ itemsD d, plainD x = true) ∧ (itemsD d).length ≤ bs.length ∧ isByteD d = true ∧ (∀ S, bytS S [d] = some (.byt bs)) ∧ d.isRef = false := by
  obtain ⟨h, hb⟩ := h
  have hp : ∀ x ∈ nums bs, plainD x = true := fun x hx => by
    obtain ⟨b, _, rfl⟩ := List.mem_map.mp hx
    rfl
  rcases h with rfl | rfl | rfl | rfl
  · simp [itemsD, isByteD]
  · refine ⟨rfl, hp, by simp [itemsD], isInt_nums hb, fun S => by simp [b8_nums hb], rfl⟩
  · refine ⟨rfl, hp, by simp [itemsD], isInt_nums hb, fun S => by simp [b8_nums hb], rfl⟩
  · refine ⟨rfl, hp, by simp [itemsD], isInt_nums hb, fun S => by simp [b8_nums hb], rfl⟩
def spansOf (es : List Ent) : List D := es.flatMap fun e => List.replicate e.steps e.span
@[simp] theorem spansOf_nil : spansOf [] = [] := rfl
@[simp] theorem spansOf_cons (e : Ent) (es : List Ent) : spansOf (e :: es) = List.replicate e.steps e.span ++ spansOf es := rfl
@[simp] theorem spansOf_app (es fs : List Ent) : spansOf (es ++ fs) = spansOf es ++ spansOf fs := List.flatMap_append
abbrev EntsOk (es : List Ent) : Prop := ∀ e ∈ es, SpanD e.span ∧ 1 ≤ e.steps ∧ e.steps ≤ 8
theorem spansOf_span {es : List Ent} (h : EntsOk es) : ∀ d ∈ spansOf es, SpanD d := by
  intro d hd
  obtain ⟨e, he, hd⟩ := List.mem_flatMap.mp hd
  rw [List.eq_of_mem_replicate hd]
  exact (h e he).1
theorem spansOf_len {es : List Ent} (h : EntsOk es) : (spansOf es).length ≤ 8 * es.length := by
  induction es with
  | nil => simp
  | cons e r ih =>
    have := ih fun x hx => h x (List.mem_cons_of_mem _ hx)
    have := (h e List.mem_cons_self).2.2
    simp; omega
theorem limL_spans {xs : List D} (h : ∀ d ∈ xs, SpanD d) (n : Nat) : limL n xs = true := by
  rw [limL_mem]
  exact fun d hd => spanD_lim (h d hd) n
/-- a Table -/
def tabD (bs : List Nat) (line : Int) (es : List Ent) : D := .ins "Table" [("held_data", .byt bs), ("held_line", .int line), ("read", .lst (es.map entD)), ("held_spans", .lst (spansOf es))]
theorem init_loop (S : Sto) (bs : List Nat) (line : Int) (rd : List D) (a1 a2 : Option D) (b : Nat) (hb : b = S.length) : ∀ (es : List Ent) (acc : List D) (x : Option D), EntsOk es → acc.length + 8 * es.length ≤ 16777216 →
    Ends (loopM (gnM 3) l_Table___init___0 b (es.map entD) [some (.ref S.length), a1, a2, x] (S ++ [.ins "Table" [("held_data", .byt bs), ("held_line", .int line), ("read", .lst rd), ("held_spans", .ref (S.length + 1))], .lst true acc])) .nx
      fun _ S' => S' = S ++ [.ins "Table" [("held_data", .byt bs), ("held_line", .int line), ("read", .lst rd), ("held_spans", .ref (S.length + 1))], .lst true (acc ++ spansOf es)] := by
  subst hb
  intro es
  induction es with
  | nil => intro acc x _ _; simp
  | cons e es ih =>
    intro acc x h hl
    obtain ⟨h1, h2, h3⟩ := h e List.mem_cons_self
    simp only [List.length_cons] at hl
    have := ih (acc ++ List.replicate e.steps e.span) (some (entD e)) (fun x hx => h x (List.mem_cons_of_mem _ hx)) (by simp; omega)
    rw [List.map_cons, loopM_cons]
    have c1 : e.steps ≤ 16777216 := by omega
    have c2 : acc.length + e.steps ≤ 16777216 := by omega
    have c3 : (e.steps : Int) < 9223372036854775808 := by omega
    have c4 : -9223372036854775808 ≤ (e.steps : Int) := by omega
    simp at this
    simp [l_Table___init___0, c1, c2, c3, c4]
    exact this
@[simp] theorem take_app1 {α : Type} (S : List α) (x : α) : (S ++ [x]).take S.length = S := by simp
def frO (n : Nat) (f : String) (i : Nat) (fs : List (String × D)) (S : Sto) (o : Option Ob) : List (String × D) × Sto := match o with
  | some (.lst _ xs) => ((f, .lst xs) :: (frostF n fs (S.set i .dead)).1, (frostF n fs (S.set i .dead)).2)
  | _ => ((f, .ref i) :: (frostF n fs S).1, (frostF n fs S).2)
@[simp] theorem frO_lst (n : Nat) (f : String) (i : Nat) (fs : List (String × D)) (S : Sto) (w : Bool) (xs : List D) : frO n f i fs S (some (.lst w xs)) = ((f, .lst xs) :: (frostF n fs (S.set i .dead)).1, (frostF n fs (S.set i .dead)).2) := id rfl
@[simp] theorem frostF_ref (n i : Nat) (f : String) (fs : List (String × D)) (S : Sto) : frostF n ((f, .ref i) :: fs) S = if n ≤ i then frO n f i fs S S[i]? else ((f, .ref i) :: (frostF n fs S).1, (frostF n fs S).2) := by
  simp only [frostF, frostD]
  by_cases h : n ≤ i
  · simp only [h, if_true]
    cases S[i]? with
    | none => rfl
    | some ob => cases ob <;> rfl
  · simp only [h, if_false]
def TabSp (r : R D) (e : Env) (S : Sto) (bs : List Nat) (line : Int) : Prop := match readAll bs line with
  | .ok es => r = .ok (tabD bs line es) e S
  | .error er => r = .exc "BadTable" (errF er) e S
theorem Table_new (S : Sto) (e : Env) {data : D} {bs : List Nat} (hd : DataOf data bs) (hl : bs.length ≤ 1000000) {line : Int} (h1 : 1 ≤ line) (h2 : line ≤ 2147483647) :
    TabSp (newR true e S (m_Table___init__ [.ref S.length, data, .int line] (S ++ [.ins "Table" []]))) e S bs line := by
  obtain ⟨p1, p2, p3, p4, p5, p6⟩ := hd.plain
  have ib := fun S => is_byte_data_eq p1 p2 (by omega) S
  have wl := fun S => want_line_eq (d := .int line) rfl (by simp) S
  have i1 : isInt 1 2147483647 (.int line) = true := by simp [isInt, h1, h2]
  simp only [i1, if_true] at wl
  unfold m_Table___init__
  rw [iniM_ap]
  have re := read_entries_sp (S ++ [.ins "Table" [("held_data", .byt bs), ("held_line", .int line)]]) bs line hl
  unfold TabSp
  cases hr : readAll bs line with
  | error er =>
    rw [hr] at re
    simp [RdSp] at re
    simp [b_Table___init___0, b_Table___init___1, b_Table___init___2, b_Table___init___3, b_Table___init___4, p6, ib, p4, wl, mayPut, p5, re]
  | ok es =>
    rw [hr] at re
    simp [RdSp] at re
    obtain ⟨r1, r2⟩ := readAll_all hr
    obtain ⟨e', S', w1, w2⟩ := (init_loop S bs line (es.map entD) (some data) (some (.int line)) S.length rfl es [] none r2 (by simp; omega)).inv
    subst w2
    simp [b_Table___init___0, b_Table___init___1, b_Table___init___2, b_Table___init___3, b_Table___init___4, b_Table___init___5, b_Table___init___6, p6, ib, p4, wl, mayPut, p5, re]
    rw [w1]
    simp [limL_ents r2, limL_spans (spansOf_span r2), tabD]
/-- data that is none -/
theorem Table_bad (S : Sto) (e : Env) {data : D} (h : plainD data = true) (hi : ∀ x ∈ itemsD data, plainD x = true) (hl : (itemsD data).length ≤ 16777216) (hb : isByteD data = false) (line : D) (hr : line.isRef = false) :
    newR true e S (m_Table___init__ [.ref S.length, data, line] (S ++ [.ins "Table" []])) = .exc "BadTable" (errF (-1, "data")) e S := by
  have ib := fun S => is_byte_data_eq h hi hl S
  unfold m_Table___init__
  rw [iniM_ap]
  simp [b_Table___init___0, plain_nr h, ib, hb, errF]
/-- a first line that is none -/
theorem Table_line (S : Sto) (e : Env) {data : D} {bs : List Nat} (hd : DataOf data bs) (hl : bs.length ≤ 1000000) {line : D} (h : plainD line = true) (hl0 : line.lim 0 = true) (hn : isInt 1 2147483647 line = false) :
    newR true e S (m_Table___init__ [.ref S.length, data, line] (S ++ [.ins "Table" []])) = .exc "BadLine" [("line", line)] e S := by
  obtain ⟨p1, p2, p3, p4, p5, p6⟩ := hd.plain
  have ib := fun S => is_byte_data_eq p1 p2 (by omega) S
  have wl := fun S => want_line_eq h hl0 S
  unfold m_Table___init__
  rw [iniM_ap]
  simp [b_Table___init___0, b_Table___init___1, p6, ib, p4, wl, hn, plain_nr h, hl0]
@[simp] theorem classOf_tab (S : Sto) (bs : List Nat) (line : Int) (es : List Ent) : classOf S (tabD bs line es) = some ("Table", [("held_data", .byt bs), ("held_line", .int line), ("read", .lst (es.map entD)), ("held_spans", .lst (spansOf es))]) := id rfl
@[simp] theorem isRef_tab (bs : List Nat) (line : Int) (es : List Ent) : (tabD bs line es).isRef = false := id rfl
theorem tab_lim {bs : List Nat} {line : Int} {es : List Ent} (h : EntsOk es) (n : Nat) : (tabD bs line es).lim n = true := by
  simp [tabD, limL_ents h, limL_spans (spansOf_span h)]
@[simp] theorem Table_data_eq (bs : List Nat) (line : Int) (es : List Ent) (S : Sto) : m_Table_data [tabD bs line es] S = .ok (.byt bs) [] S := by
  unfold m_Table_data; rw [fnM_ap]; simp [b_Table_data_0]
@[simp] theorem Table_first_line_eq (bs : List Nat) (line : Int) (es : List Ent) (S : Sto) : m_Table_first_line [tabD bs line es] S = .ok (.int line) [] S := by
  unfold m_Table_first_line; rw [fnM_ap]; simp [b_Table_first_line_0]
@[simp] theorem Table_step_count_eq (bs : List Nat) (line : Int) (es : List Ent) (S : Sto) : m_Table_step_count [tabD bs line es] S = .ok (.int (spansOf es).length) [] S := by
  unfold m_Table_step_count; rw [fnM_ap]; simp [b_Table_step_count_0]
theorem Table_spans_eq {es : List Ent} (h : EntsOk es) (bs : List Nat) (line : Int) (S : Sto) : m_Table_spans [tabD bs line es] S = .ok (.lst (spansOf es)) [] S := by
  unfold m_Table_spans; rw [fnM_ap]; simp [b_Table_spans_0, limL_spans (spansOf_span h)]
end Mir.Sh
end

/-! ShRun -/
section
set_option linter.all false
/-! ShRun: runs of equal values; is_span, want_spans. -/
namespace Mir.Sh
open Mir
/-- the same value -/
noncomputable def same (x y : D) : Bool := @decide (x = y) (Classical.propDecidable _)
@[simp] theorem same_true (x y : D) : same x y = true ↔ x = y := by
  unfold same
  exact @decide_eq_true_iff _ (Classical.propDecidable _)
@[simp] theorem same_self (x : D) : same x x = true := (same_true x x).mpr rfl
theorem same_false (x y : D) : same x y = false ↔ x ≠ y := by
  rw [← Bool.not_eq_true, same_true]
/-- values that == tells apart -/
def Cmp (x y : D) : Prop := ∀ S, eqS S x y = some (same x y)
theorem Cmp.ne {x y : D} (h : Cmp x y) (S : Sto) : neS S x y = some (!same x y) := by
  show (eqS S x y).map _ = _
  rw [h]; rfl
theorem dataL_all : ∀ {n : Nat} {ds : List D}, (∀ d ∈ ds, D.dataN n d = true) → dataL n ds = true
  | n, [], _ => by rw [dataL]
  | n, d :: ds, h => by rw [dataL, h d List.mem_cons_self, dataL_all fun x hx => h x (List.mem_cons_of_mem _ hx)]; rfl
theorem span_data {d : D} (h : SpanD d) (n : Nat) : D.dataN (n + 1) d = true := by
  rcases h with rfl | ⟨_, rfl, _⟩ | ⟨_, _, _, _, rfl, _⟩ <;> simp [D.dataN, dataL]
theorem span_eqv {x y : D} (hx : SpanD x) (hy : SpanD y) : x.eqv y = same x y := by
  have key : ∀ b : Bool, (b = true ↔ x = y) → b = same x y := fun b hb => by
    by_cases h : x = y
    · rw [(same_true x y).mpr h, hb.mpr h]
    · rw [(same_false x y).mpr h]
      cases b with
      | false => rfl
      | true => exact absurd (hb.mp rfl) h
  refine key _ ?_
  rcases hx with rfl | ⟨_, rfl, _⟩ | ⟨_, _, _, _, rfl, _⟩ <;> rcases hy with rfl | ⟨_, rfl, _⟩ | ⟨_, _, _, _, rfl, _⟩ <;> simp [D.eqv, eqvL]
theorem span_cmp {x y : D} (hx : SpanD x) (hy : SpanD y) : Cmp x y := fun S => by
  unfold eqS eqD
  rw [deref_nr S (spanD_nr hx), deref_nr S (spanD_nr hy), span_data hx 15, span_data hy 15, span_eqv hx hy]
  rfl
/-- runs: first step, end, value -/
noncomputable def runsFrom (step start : Nat) : List D → List (Nat × Nat × D)
  | [] => []
  | [d] => [(start, step + 1, d)]
  | d :: d' :: r => if same d' d = true then runsFrom (step + 1) start (d' :: r) else (start, step + 1, d) :: runsFrom (step + 1) (step + 1) (d' :: r)
noncomputable def runs (xs : List D) : List (Nat × Nat × D) := runsFrom 0 0 xs
def runD (r : Nat × Nat × D) : D := .tup [.int r.1, .int r.2.1, r.2.2]
theorem runsFrom_len : ∀ (xs : List D) (step start : Nat), (runsFrom step start xs).length ≤ xs.length
  | [], _, _ => by simp [runsFrom]
  | [d], _, _ => by simp [runsFrom]
  | d :: d' :: r, step, start => by
    rw [runsFrom]
    have := runsFrom_len (d' :: r)
    split
    · have := this (step + 1) start; simp at this ⊢; omega
    · have := this (step + 1) (step + 1); simp at this ⊢; omega
theorem runsFrom_mem : ∀ (xs : List D) (step start : Nat), ∀ r ∈ runsFrom step start xs, r.2.2 ∈ xs
  | [], _, _, r, h => by simp [runsFrom] at h
  | [d], _, _, r, h => by simp [runsFrom] at h; simp [h]
  | d :: d' :: r, step, start, x, h => by
    rw [runsFrom] at h
    split at h
    · exact List.mem_cons_of_mem _ (runsFrom_mem _ _ _ x h)
    · rcases List.mem_cons.mp h with rfl | h
      · simp
      · exact List.mem_cons_of_mem _ (runsFrom_mem _ _ _ x h)
/-- a list or a tuple -/
def RowD (d : D) (xs : List D) : Prop := d = .lst xs ∨ d = .tup xs ∨ d = .frz xs
theorem runs_loop (S : Sto) {v : D} {xs : List D} (hv : RowD v xs) (hl : xs.length ≤ 1000000) (hc : ∀ x ∈ xs, ∀ y ∈ xs, Cmp x y) (hr : ∀ x ∈ xs, x.isRef = false) (b : Nat) (hb : b = S.length) :
    ∀ (ds pre : List D) (start : Nat) (acc : List D) (x y : Option D), xs = pre ++ ds → acc.length ≤ pre.length →
    Ends (loopM (gqM 2 (gsCons (gnM 3) (gsCons (gnM 4) gsNil))) l_runs_of_0 b (enumFrom_ pre.length ds) [some v, some (.ref S.length), some (.int start), x, y] (S ++ [.lst true acc])) .nx
      fun e S' => (∃ x y z, e = [some v, some (.ref S.length), z, x, y]) ∧ S' = S ++ [.lst true (acc ++ (runsFrom pre.length start ds).map runD)] := by
  subst hb
  intro ds
  induction ds with
  | nil => intro pre start acc x y _ _; simp [enumFrom_, runsFrom]
  | cons d ds ih =>
    intro pre start acc x y hx ha
    rw [enumFrom_, loopM_cons]
    have hd : d ∈ xs := by rw [hx]; simp
    have hlen : xs.length = pre.length + ds.length + 1 := by rw [hx]; simp; omega
    have hnl : acc.length < 16777216 := by omega
    have hxl : xs.length ≤ 16777216 := by omega
    have nr := hr d hd
    have e1 : (pre ++ [d]).length = pre.length + 1 := by simp
    cases ds with
    | nil =>
      have hlen' : xs.length = pre.length + 1 := by simpa using hlen
      have hi : (pre.length : Int) + 1 = (xs.length : Int) := by omega
      rcases hv with rfl | rfl | rfl <;> simp [l_runs_of_0, nr, hnl, runsFrom, runD, hlen', enumFrom_]
    | cons d' r =>
      have hi : ¬ (pre.length : Int) + 1 = (xs.length : Int) := by simp at hlen; omega
      have hd' : d' ∈ xs := by rw [hx]; simp
      have hix : ixD xs.length ((pre.length : Int) + 1) = some (pre.length + 1) := by
        have := ixD_nat xs.length (pre.length + 1) (by simp at hlen; omega)
        simpa using this
      have hg : xs[pre.length + 1]? = some d' := by rw [hx]; simp
      have nc := (hc d' hd' d hd).ne
      rw [runsFrom]
      by_cases hs : same d' d = true
      · rw [if_pos hs]
        have := ih (pre ++ [d]) start acc (some (.int pre.length)) (some d) (by rw [hx]; simp) (by simp; omega)
        rw [e1] at this
        rcases hv with rfl | rfl | rfl <;> simp [l_runs_of_0, nr, hi, hix, hg, nc, hs] <;> exact this
      · rw [if_neg hs]
        have := ih (pre ++ [d]) (pre.length + 1) (acc ++ [runD (start, pre.length + 1, d)]) (some (.int pre.length)) (some d) (by rw [hx]; simp) (by simp; omega)
        rw [e1] at this
        simp [runD] at this
        rcases hv with rfl | rfl | rfl <;> simp [l_runs_of_0, nr, hi, hix, hg, nc, hs, hnl, runD] <;> exact this
theorem runs_of_eq {v : D} {xs : List D} (hv : RowD v xs) (hl : xs.length ≤ 1000000) (hc : ∀ x ∈ xs, ∀ y ∈ xs, Cmp x y) (hr : ∀ x ∈ xs, x.isRef = false) (hm : ∀ x ∈ xs, x.lim 0 = true) (S : Sto) :
    m_runs_of [v] S = .ok (.lst ((runs xs).map runD)) [] S := by
  obtain ⟨e, S', w1, ⟨x, y, z, w2⟩, w3⟩ := (runs_loop S hv hl hc hr S.length rfl xs [] 0 [] none none rfl (by simp)).inv
  subst w2 w3
  have hL : limL S.length ((runs xs).map runD) = true := by
    rw [limL_mem]
    intro d hd
    obtain ⟨r, hr, rfl⟩ := List.mem_map.mp hd
    have := hm _ (runsFrom_mem _ _ _ r hr)
    simp [runD, lim_mono (Nat.zero_le _) _ this]
  unfold m_runs_of
  rw [fnM_ap]
  simp at w1
  unfold runs at hL ⊢
  rcases hv with rfl | rfl | rfl <;> simp [b_runs_of_0, b_runs_of_1, b_runs_of_2, b_runs_of_3, w1, hL]
end Mir.Sh
end

/-! ShWrt -/
section
set_option linter.all false
/-! ShWrt: what is written. -/
namespace Mir.Sh
open Mir
theorem groups_len : ∀ (k n : Nat), n < 64 ^ (k + 1) → (groups n).length ≤ k + 1
  | 0, n, h => by
    rw [groups, if_pos (by simpa using h)]; simp
  | k + 1, n, h => by
    rw [groups]
    split
    · simp
    · have : n / 64 < 64 ^ (k + 1) := by
        rw [Nat.div_lt_iff_lt_mul (by omega)]
        rw [Nat.pow_succ] at h
        exact h
      have := groups_len k (n / 64) this
      simp; omega
theorem groups_lt : ∀ (n : Nat), ∀ b ∈ groups n, b < 128 := by
  intro n
  induction n using Nat.strongRecOn with
  | ind n ih =>
    intro b hb
    rw [groups] at hb
    split at hb
    · simp at hb; omega
    · rcases List.mem_cons.mp hb with rfl | hb
      · omega
      · exact ih _ (by omega) b hb
/-- form and further bytes of the shortest entry -/
def bodyOf (d : D) (line : Int) : Nat × List Nat := match d with
  | .tup [.int l, .int k, .int c, .int b] =>
    if l = k ∧ l - line = 0 ∧ c < 80 ∧ b - c < 16 then ((c / 8).toNat, [(c % 8 * 16 + b - c).toNat]) else
    if l = k ∧ 0 ≤ l - line ∧ l - line ≤ 2 ∧ b < 128 then ((10 + (l - line)).toNat, [c.toNat, b.toNat]) else
    (14, groups (fold (l - line)) ++ groups (k - l).toNat ++ groups (c + 1).toNat ++ groups (b + 1).toNat)
  | .tup (.int l :: _) => (13, groups (fold (l - line)))
  | _ => (15, [])
def LineOk (line : Int) : Prop := 1 ≤ line ∧ line ≤ 2147483647
theorem fold_lt {l line : Int} (h1 : LineOk l) (h2 : LineOk line) : fold (l - line) < 64 ^ 6 := by
  unfold LineOk at h1 h2
  unfold fold
  split <;> omega
theorem body_of_eq {d : D} (h : SpanD d) {line : Int} (hl : LineOk line) (S : Sto) : m_body_of [d, .int line] S = .ok (.tup [.int (bodyOf d line).1, .lst (nums (bodyOf d line).2)]) [] S := by
  unfold m_body_of
  rw [fnM_ap]
  rcases h with rfl | ⟨l, rfl, h1, h2⟩ | ⟨l, k, c, b, rfl, ⟨h1, h2, h3⟩, ⟨h4, h5⟩, ⟨h6, h7⟩, h8⟩
  · simp [b_body_of_0, bodyOf]
  · have f := fold_lt (l := l) ⟨h1, h2⟩ hl
    have g := groups_of_eq (fold (l - line)) S (Nat.le_trans (groups_len 5 _ f) (by omega))
    simp [b_body_of_0, b_body_of_1, b_body_of_2, b_body_of_3, folded_eq, g, bodyOf]
  · obtain ⟨m, rfl⟩ : ∃ m : Nat, k = l + m := ⟨(k - l).toNat, by omega⟩
    obtain ⟨c, rfl⟩ : ∃ n : Nat, c = n := ⟨c.toNat, by omega⟩
    obtain ⟨b, rfl⟩ : ∃ n : Nat, b = n := ⟨b.toNat, by omega⟩
    obtain ⟨z, rfl⟩ : ∃ z : Int, l = line + z := ⟨l - line, by omega⟩
    have f := fold_lt (l := line + z) ⟨h1, by omega⟩ hl
    have t0 : line + z - line = z := by omega
    rw [t0] at f
    have g := groups_of_eq (fold z) S (Nat.le_trans (groups_len 5 _ f) (by omega))
    have g1 := groups_of_eq m S (Nat.le_trans (groups_len 5 _ (by omega)) (by omega))
    have g2 := groups_of_eq (c + 1) S (Nat.le_trans (groups_len 5 _ (by omega)) (by omega))
    have g3 := groups_of_eq (b + 1) S (Nat.le_trans (groups_len 5 _ (by omega)) (by omega))
    simp at g2 g3
    have t1 : (line + z + (m : Int) - (line + z)).toNat = m := by omega
    have t2 : ((c : Int) + 1).toNat = c + 1 := by omega
    have t3 : ((b : Int) + 1).toNat = b + 1 := by omega
    have t4 : line + z + (m : Int) - (line + z) = m := by omega
    simp only [bodyOf, t0, t1, t2, t3]
    by_cases c1 : line + z = line + z + (m : Int) ∧ z = 0 ∧ (c : Int) < 80 ∧ (b : Int) - c < 16
    · rw [if_pos c1]
      obtain ⟨c1, c2, c3, c4⟩ := c1
      have c1' : m = 0 := by omega
      subst c1' c2
      have c3' : c < 80 := by omega
      have u1 : ((c : Int) / 8).toNat = c / 8 := by omega
      have u2 : ((c : Int) % 8 * 16 + b - c).toNat = c % 8 * 16 + b - c := by omega
      have u3 : ((c % 8 * 16 + b - c : Nat) : Int) = (c : Int) % 8 * 16 + b - c := by omega
      simp [t0, b_body_of_0, b_body_of_1, b_body_of_2, b_body_of_3, b_body_of_4, b_body_of_5, c3', c4, u1, u2, u3]
    · rw [if_neg c1]
      by_cases c5 : line + z = line + z + (m : Int) ∧ 0 ≤ z ∧ z ≤ 2 ∧ (b : Int) < 128
      · rw [if_pos c5]
        obtain ⟨c5, c6, c7, c8⟩ := c5
        have c1' : m = 0 := by omega
        subst c1'
        have c8' : b < 128 := by omega
        have u1 : (((10 + z).toNat : Nat) : Int) = 10 + z := by omega
        have u2 : max (10 + z) 0 = 10 + z := by omega
        by_cases d2 : z = 0
        · subst d2
          by_cases d3 : c < 80
          · have d4 : ¬ (b : Int) - c < 16 := fun h => c1 ⟨by omega, rfl, by omega, h⟩
            simp [t0, b_body_of_0, b_body_of_1, b_body_of_2, b_body_of_3, b_body_of_4, b_body_of_5, b_body_of_6, d3, d4, c8']
          · simp [t0, b_body_of_0, b_body_of_1, b_body_of_2, b_body_of_3, b_body_of_4, b_body_of_5, b_body_of_6, d3, c8']
        · simp [t0, b_body_of_0, b_body_of_1, b_body_of_2, b_body_of_3, b_body_of_4, b_body_of_5, b_body_of_6, d2, c6, c7, c8', u2]
      · rw [if_neg c5]
        have hlen : (groups (fold z)).length + (groups m).length ≤ 16777216 ∧ (groups (fold z)).length + ((groups m).length + (groups (c + 1)).length) ≤ 16777216 ∧ (groups (fold z)).length + (groups m).length + (groups (c + 1)).length ≤ 16777216 ∧ (groups (fold z)).length + ((groups m).length + (groups (c + 1)).length) + (groups (b + 1)).length ≤ 16777216 := by
          have := groups_len 5 _ f
          have := groups_len 5 m (by omega)
          have := groups_len 5 (c + 1) (by omega)
          have := groups_len 5 (b + 1) (by omega)
          omega
        obtain ⟨q1, q2, q3, q4⟩ := hlen
        by_cases hm : m = 0
        · subst hm
          simp at g1 q1 q2 q3 q4
          by_cases d2 : z = 0
          · subst d2
            have d6 : ¬ b < 128 := fun h => c5 ⟨by omega, by omega, by omega, by omega⟩
            by_cases d3 : c < 80
            · have d4 : ¬ (b : Int) - c < 16 := fun h => c1 ⟨by omega, rfl, by omega, h⟩
              simp [t0, b_body_of_0, b_body_of_1, b_body_of_2, b_body_of_3, b_body_of_4, b_body_of_5, b_body_of_6, b_body_of_7, d3, d4, d6, folded_eq, g, g1, g2, g3, q1, q2, q3, q4]
            · simp [t0, b_body_of_0, b_body_of_1, b_body_of_2, b_body_of_3, b_body_of_4, b_body_of_5, b_body_of_6, b_body_of_7, d3, d6, folded_eq, g, g1, g2, g3, q1, q2, q3, q4]
          · by_cases d7 : 0 ≤ z
            · by_cases d8 : z ≤ 2
              · have d6 : ¬ b < 128 := fun h => c5 ⟨by omega, by omega, by omega, by omega⟩
                simp [t0, b_body_of_0, b_body_of_1, b_body_of_2, b_body_of_3, b_body_of_4, b_body_of_5, b_body_of_6, b_body_of_7, d2, d6, d7, d8, folded_eq, g, g1, g2, g3, q1, q2, q3, q4]
              · simp [t0, b_body_of_0, b_body_of_1, b_body_of_2, b_body_of_3, b_body_of_4, b_body_of_5, b_body_of_6, b_body_of_7, d2, d7, d8, folded_eq, g, g1, g2, g3, q1, q2, q3, q4]
            · simp [t0, b_body_of_0, b_body_of_1, b_body_of_2, b_body_of_3, b_body_of_4, b_body_of_5, b_body_of_6, b_body_of_7, d2, d7, folded_eq, g, g1, g2, g3, q1, q2, q3, q4]
        · have hm' : ¬ (line + z = line + z + (m : Int)) := by omega
          simp [t0, b_body_of_0, b_body_of_1, b_body_of_2, b_body_of_3, b_body_of_4, b_body_of_5, b_body_of_6, b_body_of_7, hm, hm', folded_eq, g, g1, g2, g3, t4, q1, q2, q3, q4]
theorem bodyOf_len {d : D} (h : SpanD d) {line : Int} (hl : LineOk line) : (bodyOf d line).2.length ≤ 24 := by
  rcases h with rfl | ⟨l, rfl, h1, h2⟩ | ⟨l, k, c, b, rfl, ⟨h1, h2, h3⟩, ⟨h4, h5⟩, ⟨h6, h7⟩, h8⟩
  · simp [bodyOf]
  · have := groups_len 5 _ (fold_lt (l := l) ⟨h1, h2⟩ hl)
    simp [bodyOf]; omega
  · have := groups_len 5 _ (fold_lt (l := l) ⟨h1, by omega⟩ hl)
    have := groups_len 5 (k - l).toNat (by omega)
    have := groups_len 5 (c + 1).toNat (by omega)
    have := groups_len 5 (b + 1).toNat (by omega)
    unfold bodyOf
    dsimp only
    split
    · simp
    · split
      · simp
      · simp; omega
theorem bodyOf_byte {d : D} (h : SpanD d) {line : Int} (hl : LineOk line) : (bodyOf d line).1 ≤ 15 ∧ ∀ b ∈ (bodyOf d line).2, b < 128 := by
  rcases h with rfl | ⟨l, rfl, h1, h2⟩ | ⟨l, k, c, b, rfl, ⟨h1, h2, h3⟩, ⟨h4, h5⟩, ⟨h6, h7⟩, h8⟩
  · simp [bodyOf]
  · simp only [bodyOf]
    exact ⟨by omega, groups_lt _⟩
  · unfold bodyOf
    dsimp only
    split
    · refine ⟨by dsimp only; omega, ?_⟩
      intro x hx
      simp at hx; omega
    · split
      · refine ⟨by dsimp only; omega, ?_⟩
        intro x hx
        simp at hx; omega
      · refine ⟨by dsimp only; omega, ?_⟩
        intro x hx
        simp only [List.mem_append] at hx
        rcases hx with ((hx | hx) | hx) | hx <;> exact groups_lt _ x hx
/-- one entry -/
def entB (many : Nat) (d : D) (line : Int) : List Nat := (128 + 8 * (bodyOf d line).1 + many - 1) :: (bodyOf d line).2
def writeRun (n : Nat) (d : D) (line : Int) : List Nat := if n = 0 then [] else entB (min n 8) d line ++ writeRun (n - min n 8) d (spanLine d line)
decreasing_by omega
theorem spanLine_ok {d : D} (h : SpanD d) {line : Int} (hl : LineOk line) : LineOk (spanLine d line) := by
  rcases h with rfl | ⟨l, rfl, h1, h2⟩ | ⟨l, k, c, b, rfl, ⟨h1, h2, h3⟩, _⟩
  · exact hl
  · exact ⟨h1, h2⟩
  · exact ⟨h1, by show l ≤ _; omega⟩
theorem writeRun_len {d : D} (h : SpanD d) : ∀ (n : Nat) {line : Int}, LineOk line → (writeRun n d line).length ≤ 25 * n := by
  intro n
  induction n using Nat.strongRecOn with
  | ind n ih =>
    intro line hl
    rw [writeRun]
    split
    · simp
    · have := ih (n - min n 8) (by omega) (spanLine_ok h hl)
      have := bodyOf_len h hl
      simp [entB]; omega
theorem entB_byte {d : D} (h : SpanD d) {line : Int} (hl : LineOk line) {many : Nat} (hm : many ≤ 8) : ∀ b ∈ entB many d line, b < 256 := by
  obtain ⟨h1, h2⟩ := bodyOf_byte h hl
  intro x hx
  rcases List.mem_cons.mp hx with rfl | hx
  · omega
  · have := h2 x hx; omega
theorem writeRun_byte {d : D} (h : SpanD d) : ∀ (n : Nat) {line : Int}, LineOk line → ∀ b ∈ writeRun n d line, b < 256 := by
  intro n
  induction n using Nat.strongRecOn with
  | ind n ih =>
    intro line hl b hb
    rw [writeRun] at hb
    split at hb
    · simp at hb
    · rcases List.mem_append.mp hb with hb | hb
      · exact entB_byte h hl (by omega) b hb
      · exact ih _ (by omega) (spanLine_ok h hl) b hb
theorem run_loop (S : Sto) {d : D} (h : SpanD d) (b : Nat) (hb : b = S.length) : ∀ (n : Nat) (line : Int) (acc : List Nat) (x y z : Option D), LineOk line → acc.length + 25 * n ≤ 16777216 →
    Ends (whileM (cmpT gtS (rawM 0) (cM (.int 0))) l_write_run_0 b [some (.int n), some d, some (.int line), some (.ref S.length), x, y, z] (S ++ [.lst true (nums acc)])) .nx
      fun e S' => (∃ u v x y z, e = [u, some d, v, some (.ref S.length), x, y, z]) ∧ S' = S ++ [.lst true (nums (acc ++ writeRun n d line))] := by
  subst hb
  intro n
  induction n using Nat.strongRecOn with
  | ind n ih =>
    intro line acc x y z hl ha
    rw [whileM_ap, writeRun]
    by_cases hn : n = 0
    · subst hn
      simp
    · rw [if_neg hn]
      have hp : 0 < n := by omega
      have hbl := bodyOf_len h hl
      have := ih (n - min n 8) (by omega) (spanLine d line) (acc ++ entB (min n 8) d line) (some (.int (min n 8 : Nat))) (some (.int (bodyOf d line).1)) (some (.lst (nums (bodyOf d line).2))) (spanLine_ok h hl) (by simp [entB]; omega)
      have be := fun S => body_of_eq h hl S
      have c1 : acc.length < 16777216 := by omega
      have c2 : acc.length + 1 + (bodyOf d line).2.length ≤ 16777216 := by omega
      have u1 : ((128 + 8 * (bodyOf d line).1 + min n 8 - 1 : Nat) : Int) = 128 + 8 * ((bodyOf d line).1 : Int) + ((min n 8 : Nat) : Int) - 1 := by omega
      have u2 : ((n - min n 8 : Nat) : Int) = (n : Int) - ((min n 8 : Nat) : Int) := by omega
      have u3 : (if 8 < n then (8 : Int) else n) = ((min n 8 : Nat) : Int) := by split <;> omega
      simp only [nums_app, entB, nums_cons, u1, u2] at this
      rw [List.append_assoc] at this
      generalize ((min n 8 : Nat) : Int) = mm at this u1 u2 u3
      rcases h with rfl | ⟨l, rfl, h1, h2⟩ | ⟨l, k, c, b, rfl, ⟨h1, h2, h3⟩, _⟩
      · simp [spanLine] at this
        simp [hp, l_write_run_0, u3, l_write_run_0_1, be, l_write_run_0_2, l_write_run_0_3, l_write_run_0_4, l_write_run_0_5, c1, c2, entB, u1, spanLine]
        exact this
      · simp [spanLine] at this
        simp [hp, l_write_run_0, u3, l_write_run_0_1, be, l_write_run_0_2, l_write_run_0_3, l_write_run_0_4, l_write_run_0_5, c1, c2, entB, u1, spanLine]
        exact this
      · simp [spanLine] at this
        simp [hp, l_write_run_0, u3, l_write_run_0_1, be, l_write_run_0_2, l_write_run_0_3, l_write_run_0_4, l_write_run_0_5, c1, c2, entB, u1, spanLine]
        exact this
theorem write_run_eq (S : Sto) {d : D} (h : SpanD d) (n : Nat) {line : Int} (hl : LineOk line) (hn : n ≤ 600000) : m_write_run [.int n, d, .int line] S = .ok (.lst (nums (writeRun n d line))) [] S := by
  obtain ⟨e, S', w1, ⟨u, v, x, y, z, w2⟩, w3⟩ := (run_loop S h S.length rfl n line [] none none none hl (by simp; omega)).inv
  subst w2 w3
  simp at w1
  unfold m_write_run
  rw [fnM_ap]
  simp [b_write_run_0, b_write_run_1, b_write_run_2, w1]
noncomputable def writeRuns : List (Nat × Nat × D) → Int → List Nat
  | [], _ => []
  | r :: rs, line => writeRun (r.2.1 - r.1) r.2.2 line ++ writeRuns rs (spanLine r.2.2 line)
noncomputable def writeSpans (xs : List D) (line : Int) : List Nat := writeRuns (runs xs) line
/-- runs that follow one another -/
def RunsOk : Nat → List (Nat × Nat × D) → Prop
  | _, [] => True
  | a, r :: rs => r.1 = a ∧ a < r.2.1 ∧ SpanD r.2.2 ∧ RunsOk r.2.1 rs
def runsEnd : Nat → List (Nat × Nat × D) → Nat
  | a, [] => a
  | _, r :: rs => runsEnd r.2.1 rs
theorem runsFrom_ok : ∀ (xs : List D) (step start : Nat), (∀ x ∈ xs, SpanD x) → start ≤ step → RunsOk start (runsFrom step start xs) ∧ (xs ≠ [] → runsEnd start (runsFrom step start xs) = step + xs.length)
  | [], _, _, _, _ => by simp [runsFrom, RunsOk]
  | [d], step, start, h, hs => by simp [runsFrom, RunsOk, runsEnd, h d]; omega
  | d :: d' :: r, step, start, h, hs => by
    rw [runsFrom]
    have h' : ∀ x ∈ d' :: r, SpanD x := fun x hx => h x (List.mem_cons_of_mem _ hx)
    split
    · have := runsFrom_ok (d' :: r) (step + 1) start h' (by omega)
      refine ⟨this.1, fun _ => ?_⟩
      rw [this.2 (by simp)]; simp; omega
    · have := runsFrom_ok (d' :: r) (step + 1) (step + 1) h' (by omega)
      refine ⟨⟨rfl, by simp only; omega, h d List.mem_cons_self, this.1⟩, fun _ => ?_⟩
      show runsEnd (step + 1) _ = _
      rw [this.2 (by simp)]; simp; omega
theorem runs_ok {xs : List D} (h : ∀ x ∈ xs, SpanD x) : RunsOk 0 (runs xs) ∧ runsEnd 0 (runs xs) = xs.length := by
  have := runsFrom_ok xs 0 0 h (Nat.le_refl _)
  refine ⟨this.1, ?_⟩
  cases xs with
  | nil => rfl
  | cons x r => have := this.2 (by simp); rw [Nat.zero_add] at this; exact this
theorem runsEnd_le : ∀ (rs : List (Nat × Nat × D)) (a : Nat), RunsOk a rs → a ≤ runsEnd a rs
  | [], a, _ => Nat.le_refl _
  | r :: rs, a, h => by
    obtain ⟨h1, h2, h3, h4⟩ := h
    have := runsEnd_le rs _ h4
    show a ≤ runsEnd r.2.1 rs
    omega
theorem writeRuns_len : ∀ (rs : List (Nat × Nat × D)) (a : Nat) {line : Int}, RunsOk a rs → LineOk line → (writeRuns rs line).length ≤ 25 * (runsEnd a rs - a)
  | [], a, line, _, _ => by simp [writeRuns]
  | r :: rs, a, line, h, hl => by
    obtain ⟨h1, h2, h3, h4⟩ := h
    have i1 := writeRuns_len rs r.2.1 h4 (spanLine_ok h3 hl)
    have i2 := writeRun_len h3 (r.2.1 - r.1) hl
    have i3 := runsEnd_le rs _ h4
    show (writeRun _ _ _ ++ _).length ≤ 25 * (runsEnd r.2.1 rs - a)
    rw [List.length_append]
    omega
theorem writeRuns_byte : ∀ (rs : List (Nat × Nat × D)) (a : Nat) {line : Int}, RunsOk a rs → LineOk line → ∀ b ∈ writeRuns rs line, b < 256
  | [], a, line, _, _, b, hb => by simp [writeRuns] at hb
  | r :: rs, a, line, h, hl, b, hb => by
    obtain ⟨h1, h2, h3, h4⟩ := h
    rcases List.mem_append.mp hb with hb | hb
    · exact writeRun_byte h3 _ hl b hb
    · exact writeRuns_byte rs _ h4 (spanLine_ok h3 hl) b hb
theorem writeSpans_len {xs : List D} (h : ∀ x ∈ xs, SpanD x) {line : Int} (hl : LineOk line) : (writeSpans xs line).length ≤ 25 * xs.length := by
  have := writeRuns_len (runs xs) 0 (runs_ok h).1 hl
  rw [(runs_ok h).2] at this
  exact this
theorem writeSpans_byte {xs : List D} (h : ∀ x ∈ xs, SpanD x) {line : Int} (hl : LineOk line) : ∀ b ∈ writeSpans xs line, b < 256 := writeRuns_byte _ 0 (runs_ok h).1 hl
theorem spans_loop (S : Sto) (v : Option D) (l0 : Option D) (b : Nat) (hb : b = S.length) : ∀ (rs : List (Nat × Nat × D)) (a : Nat) (line : Int) (acc : List Nat) (x y z : Option D), RunsOk a rs → LineOk line → runsEnd a rs ≤ 600000 → acc.length + 25 * (runsEnd a rs - a) ≤ 16777216 →
    Ends (loopM (gqM 3 (gsCons (gnM 4) (gsCons (gnM 5) (gsCons (gnM 6) gsNil)))) l_write_spans_0 b (rs.map runD) [v, l0, some (.ref S.length), some (.int line), x, y, z] (S ++ [.lst true (nums acc)])) .nx
      fun e S' => (∃ u x y z, e = [v, l0, some (.ref S.length), u, x, y, z]) ∧ S' = S ++ [.lst true (nums (acc ++ writeRuns rs line))] := by
  subst hb
  intro rs
  induction rs with
  | nil => intro a line acc x y z _ _ _ _; simp [writeRuns]
  | cons r rs ih =>
    intro a line acc x y z h hl h6 ha
    obtain ⟨h1, h2, h3, h4⟩ := h
    obtain ⟨s, e, d⟩ := r
    simp only at h1 h2 h3 h4
    subst h1
    have i3 := runsEnd_le rs _ h4
    simp only [runsEnd] at h6 ha
    have wl := writeRun_len h3 (e - s) hl
    have wr := fun S => write_run_eq S h3 (e - s) hl (by omega)
    have u1 : ((e - s : Nat) : Int) = (e : Int) - s := by omega
    rw [u1] at wr
    have := ih e (spanLine d line) (acc ++ writeRun (e - s) d line) (some (.int s)) (some (.int e)) (some d) h4 (spanLine_ok h3 hl) (by omega) (by simp; omega)
    have c1 : acc.length + (writeRun (e - s) d line).length ≤ 16777216 := by omega
    rw [List.map_cons, loopM_cons]
    rw [List.append_assoc] at this
    simp only [writeRuns]
    rcases h3 with rfl | ⟨l, rfl, h1, h2⟩ | ⟨l, k, c, b, rfl, ⟨h1, h2, h3⟩, _⟩
    · simp [spanLine] at this
      simp [runD, l_write_spans_0, l_write_spans_0_1, wr, c1, spanLine]
      exact this
    · simp [spanLine] at this
      simp [runD, l_write_spans_0, l_write_spans_0_1, wr, c1, spanLine]
      exact this
    · simp [spanLine] at this
      simp [runD, l_write_spans_0, l_write_spans_0_1, wr, c1, spanLine]
      exact this
theorem write_spans_eq (S : Sto) {v : D} {xs : List D} (hv : RowD v xs) (h : ∀ x ∈ xs, SpanD x) (hn : xs.length ≤ 600000) {line : Int} (hl : LineOk line) : m_write_spans [v, .int line] S = .ok (.byt (writeSpans xs line)) [] S := by
  obtain ⟨r1, r2⟩ := runs_ok h
  have ro := fun S => runs_of_eq hv (by omega) (fun x hx y hy => span_cmp (h x hx) (h y hy)) (fun x hx => spanD_nr (h x hx)) (fun x hx => spanD_lim (h x hx) 0) S
  obtain ⟨e, S', w1, ⟨u, x, y, z, w2⟩, w3⟩ := (spans_loop S (some v) (some (.int line)) S.length rfl (runs xs) 0 line [] none none none r1 hl (by omega) (by simp; omega)).inv
  subst w2 w3
  simp at w1
  have vr : v.isRef = false := by rcases hv with rfl | rfl | rfl <;> rfl
  have b8 := b8_nums (writeSpans_byte h hl)
  unfold m_write_spans
  rw [fnM_ap]
  simp [b_write_spans_0, b_write_spans_1, b_write_spans_2, b_write_spans_3, w1, ro, vr]
  unfold writeSpans at b8 ⊢
  simp [b8]
end Mir.Sh
end

/-! ShOf -/
section
set_option linter.all false
/-! ShOf: is_span of anything plain, want_spans, Table.of. -/
namespace Mir.Sh
open Mir
theorem isiO_tup_plain {d : D} (h : plainD d = true) (S : Sto) : isiO ty_tuple S d = isiO ty_tuple [] d := by
  cases d <;> first | rfl | cases h
theorem is_span_eq {d : D} (h : plainD d = true) (hi : ∀ x ∈ itemsD d, plainD x = true) (S : Sto) : m_is_span [d] S = .ok (.bl (isSpanB d)) [] S := by
  cases d <;> first | (cases h; done) | skip
  case non => exact is_span_non S
  case tup xs =>
    match xs, hi with
    | [l, k, c, b], hi => exact is_span_four (hi l (by simp [itemsD])) (hi k (by simp [itemsD])) (hi c (by simp [itemsD])) (hi b (by simp [itemsD])) S
    | [], _ => exact is_span_tup (by simp) S
    | [_], _ => exact is_span_tup (by simp) S
    | [_, _], _ => exact is_span_tup (by simp) S
    | [_, _, _], _ => exact is_span_tup (by simp) S
    | _ :: _ :: _ :: _ :: _ :: _, _ => exact is_span_tup (by simp) S
  all_goals exact is_span_not rfl rfl rfl S
theorem span_is {d : D} (h : SpanD d) : isSpanB d = true := by
  rcases h with rfl | ⟨l, rfl, h1, h2⟩ | ⟨l, k, c, b, rfl, h1, h2, h3, h4⟩
  · rfl
  · simp [isSpanB, spanB, isInt, ordB, h1, h2]
  · simp [isSpanB, spanB, isInt, ordB]
    omega
theorem span_plain {d : D} (h : SpanD d) : plainD d = true ∧ ∀ x ∈ itemsD d, plainD x = true := by
  rcases h with rfl | ⟨l, rfl, h1, h2⟩ | ⟨l, k, c, b, rfl, h1, h2, h3, h4⟩ <;> simp [itemsD]
theorem is_span_sp {d : D} (h : SpanD d) (S : Sto) : m_is_span [d] S = .ok (.bl true) [] S := by
  rw [is_span_eq (span_plain h).1 (span_plain h).2, span_is h]
/-- plain, and its items too -/
def Plain2 (d : D) : Prop := plainD d = true ∧ (∀ x ∈ itemsD d, plainD x = true) ∧ d.lim 0 = true
theorem want_loop (b : Nat) : ∀ (ds : List D) (k : Nat) (v x y : Option D) (S : Sto), (∀ d ∈ ds, SpanD d) →
    Ends (loopM (gqM 2 (gsCons (gnM 1) (gsCons (gnM 2) gsNil))) l_want_spans_0 b (enumFrom_ k ds) [v, x, y] S) .nx fun e S' => e.length = 3 ∧ S' = S
  | [], k, v, x, y, S, _ => by simp [enumFrom_]
  | d :: ds, k, v, x, y, S, h => by
    have hd := h d List.mem_cons_self
    have := want_loop b ds (k + 1) v (some (.int k)) (some d) S fun x hx => h x (List.mem_cons_of_mem _ hx)
    rw [enumFrom_, loopM_cons]
    simp [l_want_spans_0, spanD_nr hd, is_span_sp hd]
    exact this
theorem want_spans_ok {v : D} {xs : List D} (hv : RowD v xs) (h : ∀ d ∈ xs, SpanD d) (S : Sto) : m_want_spans [v] S = .ok .non [] S := by
  obtain ⟨e, S', w1, w2, w3⟩ := (want_loop S.length xs 0 (some v) none none S h).inv
  subst w3
  unfold m_want_spans
  rw [fnM_ap]
  rcases hv with rfl | rfl | rfl <;> simp [b_want_spans_0, b_want_spans_1, w1]
theorem want_loop_bad (b : Nat) : ∀ (pre : List D) (k : Nat) (d : D) (post : List D) (v x y : Option D) (S : Sto), (∀ d ∈ pre, SpanD d) → Plain2 d → isSpanB d = false →
    Raises (loopM (gqM 2 (gsCons (gnM 1) (gsCons (gnM 2) gsNil))) l_want_spans_0 b (enumFrom_ k (pre ++ d :: post)) [v, x, y] S) "BadSpan" [("at", .int ((k + pre.length : Nat) : Int))] fun S' => S' = S
  | [], k, d, post, v, x, y, S, _, h1, h2 => by
    rw [List.nil_append, enumFrom_, loopM_cons]
    simp [l_want_spans_0, plain_nr h1.1, is_span_eq h1.1 h1.2.1, h2]
  | e :: pre, k, d, post, v, x, y, S, h, h1, h2 => by
    have hd := h e List.mem_cons_self
    have := want_loop_bad b pre (k + 1) d post v (some (.int k)) (some e) S (fun x hx => h x (List.mem_cons_of_mem _ hx)) h1 h2
    have hk : k + (e :: pre).length = k + 1 + pre.length := by simp; omega
    rw [List.cons_append, enumFrom_, loopM_cons, hk]
    simp [l_want_spans_0, spanD_nr hd, is_span_sp hd]
    simpa using this
theorem want_spans_bad {v : D} {pre post : List D} {d : D} (hv : RowD v (pre ++ d :: post)) (h : ∀ d ∈ pre, SpanD d) (h1 : Plain2 d) (h2 : isSpanB d = false) (S : Sto) : m_want_spans [v] S = .exc "BadSpan" [("at", .int (pre.length : Int))] [] S := by
  obtain ⟨e, S', w1, w3⟩ := (want_loop_bad S.length pre 0 d post (some v) none none S h h1 h2).inv
  subst w3
  simp at w1
  unfold m_want_spans
  rw [fnM_ap]
  rcases hv with rfl | rfl | rfl <;> simp [b_want_spans_0, b_want_spans_1, w1]
/-- no list, no tuple -/
def noRow : D → Bool
  | .non | .bl _ | .int _ | .str _ | .byt _ | .edi => true
  | _ => false
theorem want_spans_no {v : D} (h : noRow v = true) (S : Sto) : m_want_spans [v] S = .exc "BadSpan" [("at", .int (-1))] [] S := by
  unfold m_want_spans
  rw [fnM_ap]
  cases v <;> first | (cases h; done) | simp [b_want_spans_0]
/-- Table.of -/
theorem Table_of_sp (S : Sto) {v : D} {xs : List D} (hv : RowD v xs) (h : ∀ x ∈ xs, SpanD x) (hn : xs.length ≤ 40000) {line : Int} (hl : LineOk line) :
    TabSp (m_Table_of [v, .int line] S) [] S (writeSpans xs line) line := by
  have vr : v.isRef = false := by rcases hv with rfl | rfl | rfl <;> rfl
  have ws := fun S => want_spans_ok hv h S
  have wl := fun S => want_line_eq (d := .int line) rfl (by simp) S
  have i1 : isInt 1 2147483647 (.int line) = true := by simp [isInt, hl.1, hl.2]
  simp only [i1, if_true] at wl
  have wr := fun S => write_spans_eq S hv h (by omega) hl
  have hlen := writeSpans_len h hl
  have tn := Table_new S [some v, some (.int line)] (data := .byt (writeSpans xs line)) ⟨.inl rfl, writeSpans_byte h hl⟩ (by omega) hl.1 hl.2
  unfold m_Table_of
  rw [fnM_ap]
  unfold TabSp at tn ⊢
  cases hr : readAll (writeSpans xs line) line with
  | error e =>
    rw [hr] at tn
    simp at tn
    simp [b_Table_of_0, b_Table_of_1, b_Table_of_2, vr, ws, wl, wr, tn]
  | ok es =>
    rw [hr] at tn
    simp at tn
    simp [b_Table_of_0, b_Table_of_1, b_Table_of_2, vr, ws, wl, wr, tn, tab_lim (readAll_all hr).2]
theorem Table_of_line (S : Sto) {v : D} {xs : List D} (hv : RowD v xs) (h : ∀ x ∈ xs, SpanD x) {line : D} (hp : plainD line = true) (hl : line.lim 0 = true) (hn : isInt 1 2147483647 line = false) :
    m_Table_of [v, line] S = .exc "BadLine" [("line", line)] [] S := by
  have vr : v.isRef = false := by rcases hv with rfl | rfl | rfl <;> rfl
  have ws := fun S => want_spans_ok hv h S
  have wl := fun S => want_line_eq hp hl S
  unfold m_Table_of
  rw [fnM_ap]
  simp [b_Table_of_0, b_Table_of_1, vr, ws, wl, hn, plain_nr hp, hl]
theorem Table_of_bad (S : Sto) {v : D} {pre post : List D} {d : D} (hv : RowD v (pre ++ d :: post)) (h : ∀ d ∈ pre, SpanD d) (h1 : Plain2 d) (h2 : isSpanB d = false) (line : D) :
    m_Table_of [v, line] S = .exc "BadSpan" [("at", .int (pre.length : Int))] [] S := by
  have vr : v.isRef = false := by rcases hv with rfl | rfl | rfl <;> rfl
  have ws := fun S => want_spans_bad hv h h1 h2 S
  unfold m_Table_of
  rw [fnM_ap]
  simp [b_Table_of_0, vr, ws]
theorem Table_of_no (S : Sto) {v : D} (h : noRow v = true) (line : D) : m_Table_of [v, line] S = .exc "BadSpan" [("at", .int (-1))] [] S := by
  have vr : v.isRef = false := by cases v <;> first | rfl | cases h
  have ws := fun S => want_spans_no h S
  unfold m_Table_of
  rw [fnM_ap]
  simp [b_Table_of_0, vr, ws]
end Mir.Sh
end

/-! ShEnc -/
section
set_option linter.all false
/-! ShEnc: what is written is read. -/
namespace Mir.Sh
open Mir
theorem get_mid {α : Type} (pre : List α) (x : α) (post : List α) : (pre ++ x :: post)[pre.length]? = some x := by simp
theorem nextB_mid (pre : List Nat) {b : Nat} (post : List Nat) (h : b < 128) : nextB (pre ++ b :: post) pre.length = .ok (b, pre.length + 1) := by
  unfold nextB
  rw [get_mid]
  have : ¬ 128 ≤ b := by omega
  simp [this]
/-- bytes of figures, the lowest first -/
def enc : List Nat → List Nat
  | [] => []
  | [d] => [d]
  | d :: e :: r => (d + 64) :: enc (e :: r)
def val : List Nat → Nat
  | [] => 0
  | d :: r => d + 64 * val r
@[simp] theorem enc_len : ∀ ds : List Nat, (enc ds).length = ds.length
  | [] => rfl
  | [d] => rfl
  | d :: e :: r => by rw [enc, List.length_cons, enc_len (e :: r)]; rfl
def digits (n : Nat) : List Nat := if n < 64 then [n] else n % 64 :: digits (n / 64)
decreasing_by omega
theorem digits_ne (n : Nat) : digits n ≠ [] := by
  rw [digits]; split <;> simp
theorem groups_enc (n : Nat) : groups n = enc (digits n) := by
  induction n using Nat.strongRecOn with
  | ind n ih =>
    rw [groups, digits]
    split
    · rfl
    · have := ih (n / 64) (by omega)
      rw [this]
      cases hd : digits (n / 64) with
      | nil => exact absurd hd (digits_ne _)
      | cons e r => rfl
theorem digits_val (n : Nat) : val (digits n) = n := by
  induction n using Nat.strongRecOn with
  | ind n ih =>
    rw [digits]
    split
    · simp [val]
    · rw [val, ih (n / 64) (by omega)]; omega
theorem digits_lt (n : Nat) : ∀ d ∈ digits n, d < 64 := by
  induction n using Nat.strongRecOn with
  | ind n ih =>
    intro d hd
    rw [digits] at hd
    split at hd
    · simp at hd; omega
    · rcases List.mem_cons.mp hd with rfl | hd
      · omega
      · exact ih _ (by omega) d hd
theorem digits_len {n k : Nat} (h : n < 64 ^ (k + 1)) : (digits n).length ≤ k + 1 := by
  have := groups_len k n h
  rw [groups_enc, enc_len] at this
  exact this
theorem val_app_zero (ds : List Nat) (k : Nat) : val (ds ++ List.replicate k 0) = val ds := by
  induction ds with
  | nil =>
    induction k with
    | zero => rfl
    | succ k ih => rw [List.replicate_succ]; simp only [List.nil_append, val] at ih ⊢; omega
  | cons d r ih => simp only [List.cons_append, val, ih]
theorem numO_enc : ∀ (ds : List Nat) (n f w : Nat) (pre post : List Nat), ds ≠ [] → (∀ d ∈ ds, d < 64) → ds.length ≤ n →
    numO (pre ++ enc ds ++ post) n f w pre.length = .ok (some (f + w * val ds), pre.length + ds.length)
  | [], _, _, _, _, _, h, _, _ => absurd rfl h
  | [d], n, f, w, pre, post, _, hd, hn => by
    obtain ⟨n, rfl⟩ : ∃ m, n = m + 1 := ⟨n - 1, by simp at hn; omega⟩
    have h := hd d (by simp)
    have e : pre ++ enc [d] ++ post = pre ++ d :: post := by simp [enc]
    rw [e, numO, nextB_mid pre post (by omega)]
    have : d * w = w * d := Nat.mul_comm _ _
    simp [h, val, this]
  | d :: e :: r, n, f, w, pre, post, _, hd, hn => by
    obtain ⟨n, rfl⟩ : ∃ m, n = m + 1 := ⟨n - 1, by simp at hn; omega⟩
    have h := hd d (by simp)
    have q : pre ++ enc (d :: e :: r) ++ post = pre ++ (d + 64) :: (enc (e :: r) ++ post) := by simp [enc]
    have q2 : pre ++ (d + 64) :: (enc (e :: r) ++ post) = (pre ++ [d + 64]) ++ enc (e :: r) ++ post := by simp
    have ih := numO_enc (e :: r) n (f + d * w) (w * 64) (pre ++ [d + 64]) post (by simp) (fun x hx => hd x (List.mem_cons_of_mem _ hx)) (by simp at hn ⊢; omega)
    rw [q, numO, nextB_mid pre _ (by omega)]
    have h1 : ¬ d + 64 < 64 := by omega
    have h2 : (d + 64) % 64 = d := by omega
    simp only [h1, if_false, h2]
    rw [q2]
    have hl : (pre ++ [d + 64]).length = pre.length + 1 := by simp
    rw [hl] at ih
    rw [ih]
    have v1 : val (d :: e :: r) = d + 64 * val (e :: r) := rfl
    rw [v1]
    have m1 : w * 64 * val (e :: r) = w * (64 * val (e :: r)) := Nat.mul_assoc _ _ _
    have m2 : d * w = w * d := Nat.mul_comm _ _
    have m3 : w * (d + 64 * val (e :: r)) = w * d + w * (64 * val (e :: r)) := Nat.mul_add _ _ _
    rw [m1, m2, m3]
    have hq : pre.length + 1 + (e :: r).length = pre.length + (d :: e :: r).length := by simp; omega
    rw [hq, Nat.add_assoc]
/-- the bytes of a number -/
def NumB (n : Nat) (bs : List Nat) : Prop := ∃ ds, bs = enc ds ∧ val ds = n ∧ ds ≠ [] ∧ (∀ d ∈ ds, d < 64) ∧ ds.length ≤ 8
theorem NumB.read {n : Nat} {bs : List Nat} (h : NumB n bs) (pre post : List Nat) : number (pre ++ (bs ++ post)) pre.length = .ok (n, pre.length + bs.length) := by
  obtain ⟨ds, rfl, rfl, h1, h2, h3⟩ := h
  unfold number
  rw [← List.append_assoc, numO_enc ds 8 0 1 pre post h1 h2 h3]
  simp
theorem numB_groups {n : Nat} (h : n < 64 ^ 8) : NumB n (groups n) := ⟨digits n, groups_enc n, digits_val n, digits_ne n, digits_lt n, digits_len h⟩
theorem enc_lt : ∀ (ds : List Nat), (∀ d ∈ ds, d < 64) → ∀ b ∈ enc ds, b < 128
  | [], _, b, hb => by simp [enc] at hb
  | [d], h, b, hb => by
    have := h d (by simp)
    simp [enc] at hb; omega
  | d :: e :: r, h, b, hb => by
    rw [enc] at hb
    rcases List.mem_cons.mp hb with rfl | hb
    · have := h d (by simp); omega
    · exact enc_lt (e :: r) (fun x hx => h x (List.mem_cons_of_mem _ hx)) b hb
theorem NumB.lt {n : Nat} {bs : List Nat} (h : NumB n bs) : ∀ b ∈ bs, b < 128 := by
  obtain ⟨ds, rfl, _, _, h2, _⟩ := h
  exact enc_lt ds h2
theorem NumB.len {n : Nat} {bs : List Nat} (h : NumB n bs) : bs.length ≤ 8 ∧ bs ≠ [] := by
  obtain ⟨ds, rfl, _, h1, _, h3⟩ := h
  refine ⟨by rw [enc_len]; exact h3, fun e => h1 ?_⟩
  have := congrArg List.length e
  rw [enc_len] at this
  exact List.length_eq_zero_iff.mp this
theorem unfold_fold (z : Int) : unfoldN (fold z) = z := by
  unfold unfoldN fold
  split <;> split <;> omega
theorem NumB.signed {z : Int} {bs : List Nat} (h : NumB (fold z) bs) (pre post : List Nat) : signed (pre ++ (bs ++ post)) pre.length = .ok (z, pre.length + bs.length) := by
  unfold Sh.signed
  rw [h.read]
  simp [unfold_fold]
/-- the bytes of an entry -/
def EntB (line : Int) (steps : Nat) (span : D) (form : Nat) (bs : List Nat) : Prop := ∀ pre post : List Nat, readEntry (pre ++ (bs ++ post)) pre.length line = .ok ⟨pre.length, steps, form, span, pre.length + bs.length⟩
theorem readEntry_hd {pre bs : List Nat} {b : Nat} {line : Int} {r : Raw} {k : Nat} {steps form : Nat} (h1 : 1 ≤ steps) (h2 : steps ≤ 8) (hf : form < 15) (hb : b = 128 + 8 * form + steps - 1)
    (hr : rawSpan (pre ++ b :: bs) form line (pre.length + 1) = .ok (r, k)) (ho : rawOk pre.length r = .ok ()) : readEntry (pre ++ b :: bs) pre.length line = .ok ⟨pre.length, steps, form, rawD r, k⟩ := by
  subst hb
  unfold readEntry
  have g : (pre ++ (128 + 8 * form + steps - 1) :: bs).getD pre.length 0 = 128 + 8 * form + steps - 1 := by simp
  rw [g]
  have c1 : ¬ 128 + 8 * form + steps - 1 < 128 := by omega
  have c2 : (128 + 8 * form + steps - 1) / 8 % 16 = form := by omega
  have c3 : (128 + 8 * form + steps - 1) % 8 + 1 = steps := by omega
  have c4 : ¬ form = 15 := by omega
  simp only [c1, if_false, c2, c3, c4, hr, ho]
theorem entB_none {line : Int} {steps : Nat} (h1 : 1 ≤ steps) (h2 : steps ≤ 8) : EntB line steps .non 15 [128 + 8 * 15 + steps - 1] := by
  intro pre post
  unfold readEntry
  have g : (pre ++ ([128 + 8 * 15 + steps - 1] ++ post)).getD pre.length 0 = 128 + 8 * 15 + steps - 1 := by simp
  rw [g]
  have c1 : ¬ 128 + 8 * 15 + steps - 1 < 128 := by omega
  have c2 : (128 + 8 * 15 + steps - 1) / 8 % 16 = 15 := by omega
  have c3 : (128 + 8 * 15 + steps - 1) % 8 + 1 = steps := by omega
  simp only [c1, if_false, c2, c3, if_true]
  rfl
/-- a span with columns -/
theorem rawOk_four {a : Nat} {l k c b : Int} (h : SpanD (.tup [.int l, .int k, .int c, .int b])) : rawOk a (l, k, .int c, .int b) = .ok () := by
  rw [spanD_four] at h
  unfold rawOk most
  dsimp only
  rw [if_neg (by omega), if_pos]
  simp [ordB, isInt]
  omega
theorem rawOk_two {a : Nat} {l : Int} (h : SpanD (.tup [.int l, .int l, .non, .non])) : rawOk a (l, l, .non, .non) = .ok () := by
  rw [spanD_two] at h
  unfold rawOk most
  dsimp only
  rw [if_neg (by omega), if_pos]
  simp [ordB]
theorem entB_short {line : Int} {steps c b : Nat} (h1 : 1 ≤ steps) (h2 : steps ≤ 8) (h : SpanD (.tup [.int line, .int line, .int c, .int b])) (hc : c < 80) (hb : b < c + 16) (hcb : c ≤ b) :
    EntB line steps (.tup [.int line, .int line, .int c, .int b]) (c / 8) [128 + 8 * (c / 8) + steps - 1, c % 8 * 16 + (b - c)] := by
  intro pre post
  have e : pre ++ ([128 + 8 * (c / 8) + steps - 1, c % 8 * 16 + (b - c)] ++ post) = pre ++ (128 + 8 * (c / 8) + steps - 1) :: ((c % 8 * 16 + (b - c)) :: post) := by simp
  rw [e]
  have e2 : pre ++ (128 + 8 * (c / 8) + steps - 1) :: ((c % 8 * 16 + (b - c)) :: post) = (pre ++ [128 + 8 * (c / 8) + steps - 1]) ++ (c % 8 * 16 + (b - c)) :: post := by simp
  have r : rawSpan (pre ++ (128 + 8 * (c / 8) + steps - 1) :: ((c % 8 * 16 + (b - c)) :: post)) (c / 8) line (pre.length + 1) = .ok ((line, line, .int c, .int b), pre.length + 2) := by
    unfold rawSpan
    rw [if_pos (by omega), e2]
    have := nextB_mid (pre ++ [128 + 8 * (c / 8) + steps - 1]) (b := c % 8 * 16 + (b - c)) post (by omega)
    simp only [List.length_append, List.length_singleton] at this
    rw [this]
    have u1 : 8 * (c / 8) + (c % 8 * 16 + (b - c)) / 16 = c := by omega
    have u2 : c + (c % 8 * 16 + (b - c)) % 16 = b := by omega
    simp only [u1, u2]
  exact readEntry_hd h1 h2 (by omega) rfl r (rawOk_four h)
theorem entB_line {line : Int} {steps f c b : Nat} (h1 : 1 ≤ steps) (h2 : steps ≤ 8) (h : SpanD (.tup [.int (line + f), .int (line + f), .int c, .int b])) (hf : f < 3) (hc : c ≤ b) (hb : b < 128) :
    EntB line steps (.tup [.int (line + f), .int (line + f), .int c, .int b]) (10 + f) [128 + 8 * (10 + f) + steps - 1, c, b] := by
  intro pre post
  have e : pre ++ ([128 + 8 * (10 + f) + steps - 1, c, b] ++ post) = pre ++ (128 + 8 * (10 + f) + steps - 1) :: (c :: b :: post) := by simp
  rw [e]
  have e2 : pre ++ (128 + 8 * (10 + f) + steps - 1) :: (c :: b :: post) = (pre ++ [128 + 8 * (10 + f) + steps - 1]) ++ c :: (b :: post) := by simp
  have e3 : (pre ++ [128 + 8 * (10 + f) + steps - 1]) ++ c :: (b :: post) = (pre ++ [128 + 8 * (10 + f) + steps - 1, c]) ++ b :: post := by simp
  have r : rawSpan (pre ++ (128 + 8 * (10 + f) + steps - 1) :: (c :: b :: post)) (10 + f) line (pre.length + 1) = .ok ((line + f, line + f, .int c, .int b), pre.length + 3) := by
    unfold rawSpan
    rw [if_neg (by omega), if_pos (by omega), e2]
    have n1 := nextB_mid (pre ++ [128 + 8 * (10 + f) + steps - 1]) (b := c) (b :: post) (by omega)
    have n2 := nextB_mid (pre ++ [128 + 8 * (10 + f) + steps - 1, c]) (b := b) post (by omega)
    simp only [List.length_append, List.length_singleton] at n1
    have hl : (pre ++ [128 + 8 * (10 + f) + steps - 1, c]).length = pre.length + 1 + 1 := by simp
    rw [hl] at n2
    rw [n1]
    dsimp only
    rw [e3, n2]
    have u : line + (((10 + f : Nat) : Int) - 10) = line + f := by omega
    simp only [u]
  exact readEntry_hd h1 h2 (by omega) rfl r (rawOk_four h)
theorem entB_bare {line z : Int} {steps : Nat} {bs : List Nat} (h1 : 1 ≤ steps) (h2 : steps ≤ 8) (h : SpanD (.tup [.int (line + z), .int (line + z), .non, .non])) (hb : NumB (fold z) bs) :
    EntB line steps (.tup [.int (line + z), .int (line + z), .non, .non]) 13 ((128 + 8 * 13 + steps - 1) :: bs) := by
  intro pre post
  have e2 : pre ++ (128 + 8 * 13 + steps - 1) :: (bs ++ post) = (pre ++ [128 + 8 * 13 + steps - 1]) ++ (bs ++ post) := by simp
  have hl : (pre ++ [128 + 8 * 13 + steps - 1]).length = pre.length + 1 := by simp
  have s := hb.signed (pre ++ [128 + 8 * 13 + steps - 1]) post
  rw [hl] at s
  have r : rawSpan (pre ++ (128 + 8 * 13 + steps - 1) :: (bs ++ post)) 13 line (pre.length + 1) = .ok ((line + z, line + z, .non, .non), pre.length + 1 + bs.length) := by
    unfold rawSpan
    rw [if_neg (by omega), if_neg (by omega), e2, s]
    simp
  have := readEntry_hd (bs := bs ++ post) h1 h2 (by omega) rfl r (rawOk_two h)
  show readEntry (pre ++ (128 + 8 * 13 + steps - 1) :: (bs ++ post)) _ _ = _
  rw [this]
  simp [rawD]; omega
/-- form 14, with columns or without -/
theorem entB_long {line z : Int} {steps m c b : Nat} {b1 b2 b3 b4 : List Nat} (h1 : 1 ≤ steps) (h2 : steps ≤ 8) (h : rawOk 0 (line + z, line + z + m, mcol c, mcol b) = .ok ()) (n1 : NumB (fold z) b1) (n2 : NumB m b2) (n3 : NumB c b3) (n4 : NumB b b4) :
    EntB line steps (.tup [.int (line + z), .int (line + z + m), mcol c, mcol b]) 14 ((128 + 8 * 14 + steps - 1) :: (b1 ++ b2 ++ b3 ++ b4)) := by
  intro pre post
  have ho : rawOk pre.length (line + z, line + z + m, mcol c, mcol b) = .ok () := by
    unfold rawOk at h ⊢
    split at h
    · cases h
    · rename_i q
      rw [if_neg q]
      split at h
      · rename_i q2; rw [if_pos q2]
      · cases h
  have f0 : pre ++ ((128 + 8 * 14 + steps - 1) :: (b1 ++ b2 ++ b3 ++ b4) ++ post) = pre ++ (128 + 8 * 14 + steps - 1) :: (b1 ++ b2 ++ b3 ++ b4 ++ post) := by simp
  have f1 : pre ++ (128 + 8 * 14 + steps - 1) :: (b1 ++ b2 ++ b3 ++ b4 ++ post) = (pre ++ [128 + 8 * 14 + steps - 1]) ++ (b1 ++ (b2 ++ b3 ++ b4 ++ post)) := by simp
  have f2 : (pre ++ [128 + 8 * 14 + steps - 1]) ++ (b1 ++ (b2 ++ b3 ++ b4 ++ post)) = (pre ++ [128 + 8 * 14 + steps - 1] ++ b1) ++ (b2 ++ (b3 ++ b4 ++ post)) := by simp
  have f3 : (pre ++ [128 + 8 * 14 + steps - 1] ++ b1) ++ (b2 ++ (b3 ++ b4 ++ post)) = (pre ++ [128 + 8 * 14 + steps - 1] ++ b1 ++ b2) ++ (b3 ++ (b4 ++ post)) := by simp
  have f4 : (pre ++ [128 + 8 * 14 + steps - 1] ++ b1 ++ b2) ++ (b3 ++ (b4 ++ post)) = (pre ++ [128 + 8 * 14 + steps - 1] ++ b1 ++ b2 ++ b3) ++ (b4 ++ post) := by simp
  have l1 : (pre ++ [128 + 8 * 14 + steps - 1]).length = pre.length + 1 := by simp
  have l2 : (pre ++ [128 + 8 * 14 + steps - 1] ++ b1).length = pre.length + 1 + b1.length := by simp; omega
  have l3 : (pre ++ [128 + 8 * 14 + steps - 1] ++ b1 ++ b2).length = pre.length + 1 + b1.length + b2.length := by simp; omega
  have l4 : (pre ++ [128 + 8 * 14 + steps - 1] ++ b1 ++ b2 ++ b3).length = pre.length + 1 + b1.length + b2.length + b3.length := by simp; omega
  have s1 := n1.signed (pre ++ [128 + 8 * 14 + steps - 1]) (b2 ++ b3 ++ b4 ++ post)
  have s2 := n2.read (pre ++ [128 + 8 * 14 + steps - 1] ++ b1) (b3 ++ b4 ++ post)
  have s3 := n3.read (pre ++ [128 + 8 * 14 + steps - 1] ++ b1 ++ b2) (b4 ++ post)
  have s4 := n4.read (pre ++ [128 + 8 * 14 + steps - 1] ++ b1 ++ b2 ++ b3) post
  rw [l1] at s1; rw [l2] at s2; rw [l3] at s3; rw [l4] at s4
  have r : rawSpan (pre ++ (128 + 8 * 14 + steps - 1) :: (b1 ++ b2 ++ b3 ++ b4 ++ post)) 14 line (pre.length + 1) = .ok ((line + z, line + z + m, mcol c, mcol b), pre.length + 1 + b1.length + b2.length + b3.length + b4.length) := by
    unfold rawSpan
    rw [if_neg (by omega), if_neg (by omega), f1, s1]
    dsimp only
    rw [if_neg (by omega), f2, s2]
    dsimp only
    rw [f3, s3]
    dsimp only
    rw [f4, s4]
  have := readEntry_hd (bs := b1 ++ b2 ++ b3 ++ b4 ++ post) h1 h2 (by omega) rfl r ho
  rw [f0, this]
  simp [rawD]; omega
end Mir.Sh
end

/-! ShRow -/
section
set_option linter.all false
/-! ShRow: rows of entries; a written table is read again. -/
namespace Mir.Sh
open Mir
structure RowB where
  steps : Nat
  span : D
  form : Nat
  bytes : List Nat
def RowsB (line : Int) : List RowB → Prop
  | [] => True
  | r :: rs => EntB line r.steps r.span r.form r.bytes ∧ r.bytes ≠ [] ∧ RowsB (spanLine r.span line) rs
def rowBytes (rs : List RowB) : List Nat := rs.flatMap (·.bytes)
@[simp] theorem rowBytes_nil : rowBytes [] = [] := rfl
@[simp] theorem rowBytes_cons (r : RowB) (rs : List RowB) : rowBytes (r :: rs) = r.bytes ++ rowBytes rs := rfl
@[simp] theorem rowBytes_app (rs ss : List RowB) : rowBytes (rs ++ ss) = rowBytes rs ++ rowBytes ss := List.flatMap_append
def rowSpans (rs : List RowB) : List D := rs.flatMap fun r => List.replicate r.steps r.span
@[simp] theorem rowSpans_nil : rowSpans [] = [] := rfl
@[simp] theorem rowSpans_cons (r : RowB) (rs : List RowB) : rowSpans (r :: rs) = List.replicate r.steps r.span ++ rowSpans rs := rfl
@[simp] theorem rowSpans_app (rs ss : List RowB) : rowSpans (rs ++ ss) = rowSpans rs ++ rowSpans ss := List.flatMap_append
def rowLine (line : Int) (rs : List RowB) : Int := rs.foldl (fun l r => spanLine r.span l) line
@[simp] theorem rowLine_nil (line : Int) : rowLine line [] = line := rfl
@[simp] theorem rowLine_cons (line : Int) (r : RowB) (rs : List RowB) : rowLine line (r :: rs) = rowLine (spanLine r.span line) rs := rfl
@[simp] theorem rowLine_app (line : Int) (rs ss : List RowB) : rowLine line (rs ++ ss) = rowLine (rowLine line rs) ss := List.foldl_append
theorem rowsB_app {line : Int} {rs ss : List RowB} : RowsB line (rs ++ ss) ↔ RowsB line rs ∧ RowsB (rowLine line rs) ss := by
  induction rs generalizing line with
  | nil => simp [RowsB]
  | cons r rs ih => simp [RowsB, ih, and_assoc]
def rowEnts (a : Nat) : List RowB → List Ent
  | [] => []
  | r :: rs => ⟨a, r.steps, r.form, r.span, a + r.bytes.length⟩ :: rowEnts (a + r.bytes.length) rs
theorem spansOf_rows (rs : List RowB) : ∀ a, spansOf (rowEnts a rs) = rowSpans rs := by
  induction rs with
  | nil => intro a; rfl
  | cons r rs ih => intro a; simp [rowEnts, ih]
theorem readFrom_rows : ∀ (rs : List RowB) (line : Int) (pre : List Nat) (n : Nat), RowsB line rs → (rowBytes rs).length ≤ n → readFrom (pre ++ rowBytes rs) n pre.length line = .ok (rowEnts pre.length rs)
  | [], line, pre, n, _, _ => by
    cases n with
    | zero => rfl
    | succ n => simp [readFrom, rowEnts]
  | r :: rs, line, pre, n, h, hn => by
    obtain ⟨h1, h2, h3⟩ := h
    have hp : 0 < r.bytes.length := List.length_pos_iff.mpr h2
    simp only [rowBytes_cons, List.length_append] at hn
    obtain ⟨n, rfl⟩ : ∃ m, n = m + 1 := ⟨n - 1, by omega⟩
    have lt : pre.length < (pre ++ (r.bytes ++ rowBytes rs)).length := by simp; omega
    rw [rowBytes_cons, readFrom, if_pos lt, h1 pre (rowBytes rs)]
    have ih := readFrom_rows rs (spanLine r.span line) (pre ++ r.bytes) n h3 (by omega)
    rw [List.length_append, List.append_assoc] at ih
    dsimp only
    rw [ih]
    rfl
theorem readAll_rows {rs : List RowB} {line : Int} (h : RowsB line rs) : readAll (rowBytes rs) line = .ok (rowEnts 0 rs) := readFrom_rows rs line [] _ h (Nat.le_refl _)
/-- the shortest entry is read as it was meant -/
theorem entB_ok {d : D} (h : SpanD d) {line : Int} (hl : LineOk line) {many : Nat} (h1 : 1 ≤ many) (h2 : many ≤ 8) : EntB line many d (bodyOf d line).1 (entB many d line) := by
  have hd := h
  rcases h with rfl | ⟨l, rfl, g1, g2⟩ | ⟨l, k, c, b, rfl, ⟨g1, g2, g3⟩, ⟨g4, g5⟩, ⟨g6, g7⟩, g8⟩
  · exact entB_none h1 h2
  · obtain ⟨z, rfl⟩ : ∃ z : Int, l = line + z := ⟨l - line, by omega⟩
    have t0 : line + z - line = z := by omega
    have f := fold_lt (l := line + z) ⟨g1, g2⟩ hl
    rw [t0] at f
    have := entB_bare h1 h2 hd (numB_groups (n := fold z) (by omega))
    simp only [entB, bodyOf, t0]
    exact this
  · obtain ⟨m, rfl⟩ : ∃ m : Nat, k = l + m := ⟨(k - l).toNat, by omega⟩
    obtain ⟨c, rfl⟩ : ∃ n : Nat, c = n := ⟨c.toNat, by omega⟩
    obtain ⟨b, rfl⟩ : ∃ n : Nat, b = n := ⟨b.toNat, by omega⟩
    obtain ⟨z, rfl⟩ : ∃ z : Int, l = line + z := ⟨l - line, by omega⟩
    have t0 : line + z - line = z := by omega
    have f := fold_lt (l := line + z) ⟨g1, by omega⟩ hl
    rw [t0] at f
    simp only [entB, bodyOf, t0]
    by_cases c1 : line + z = line + z + (m : Int) ∧ z = 0 ∧ (c : Int) < 80 ∧ (b : Int) - c < 16
    · rw [if_pos c1]
      obtain ⟨c1, rfl, c3, c4⟩ := c1
      have hm : m = 0 := by omega
      subst hm
      have hcb : c ≤ b := by omega
      have := entB_short (line := line) (c := c) (b := b) h1 h2 (by simpa using hd) (by omega) (by omega) hcb
      have u1 : ((c : Int) / 8).toNat = c / 8 := by omega
      have u2 : ((c : Int) % 8 * 16 + b - c).toNat = c % 8 * 16 + (b - c) := by omega
      simp only [u1, u2]
      simpa using this
    · rw [if_neg c1]
      by_cases c5 : line + z = line + z + (m : Int) ∧ 0 ≤ z ∧ z ≤ 2 ∧ (b : Int) < 128
      · rw [if_pos c5]
        obtain ⟨c5, c6, c7, c8⟩ := c5
        have hm : m = 0 := by omega
        subst hm
        obtain ⟨f', rfl⟩ : ∃ n : Nat, z = n := ⟨z.toNat, by omega⟩
        have := entB_line (line := line) (f := f') (c := c) (b := b) h1 h2 (by simpa using hd) (by omega) (by omega) (by omega)
        have u1 : (10 + (f' : Int)).toNat = 10 + f' := by omega
        simp only [u1]
        simpa using this
      · rw [if_neg c5]
        have t1 : (line + z + (m : Int) - (line + z)).toNat = m := by omega
        have t2 : ((c : Int) + 1).toNat = c + 1 := by omega
        have t3 : ((b : Int) + 1).toNat = b + 1 := by omega
        have mc : ∀ n : Nat, mcol (n + 1) = .int n := fun n => by
          unfold mcol
          rw [if_neg (by omega)]
          congr 1; omega
        have := entB_long (line := line) (z := z) (m := m) (c := c + 1) (b := b + 1) h1 h2 (by rw [mc, mc]; exact rawOk_four hd) (numB_groups (n := fold z) (by omega)) (numB_groups (n := m) (by omega)) (numB_groups (n := c + 1) (by omega)) (numB_groups (n := b + 1) (by omega))
        rw [mc, mc] at this
        simp only [t1, t2, t3]
        exact this
theorem entB_ne (many : Nat) (d : D) (line : Int) : entB many d line ≠ [] := by simp [entB]
def wrRows (n : Nat) (d : D) (line : Int) : List RowB := if n = 0 then [] else ⟨min n 8, d, (bodyOf d line).1, entB (min n 8) d line⟩ :: wrRows (n - min n 8) d (spanLine d line)
decreasing_by omega
theorem spanLine_twice (d : D) (line : Int) : spanLine d (spanLine d line) = spanLine d line := by
  cases d with
  | tup xs =>
    cases xs with
    | nil => rfl
    | cons x r => cases x <;> rfl
  | _ => rfl
theorem wrRows_ok {d : D} (h : SpanD d) : ∀ (n : Nat) {line : Int}, LineOk line → RowsB line (wrRows n d line) ∧ rowBytes (wrRows n d line) = writeRun n d line ∧ rowSpans (wrRows n d line) = List.replicate n d ∧ rowLine line (wrRows n d line) = (if n = 0 then line else spanLine d line) := by
  intro n
  induction n using Nat.strongRecOn with
  | ind n ih =>
    intro line hl
    rw [wrRows, writeRun]
    by_cases hn : n = 0
    · subst hn; simp [RowsB]
    · rw [if_neg hn, if_neg hn, if_neg hn]
      obtain ⟨i1, i2, i3, i4⟩ := ih (n - min n 8) (by omega) (spanLine_ok h hl)
      have m1 : 1 ≤ min n 8 := by omega
      have m2 : min n 8 ≤ 8 := by omega
      refine ⟨⟨entB_ok h hl m1 m2, entB_ne _ _ _, i1⟩, by rw [rowBytes_cons, i2], ?_, ?_⟩
      · rw [rowSpans_cons, i3]
        simp only [List.replicate_append_replicate]
        congr 1; omega
      · rw [rowLine_cons, i4]
        split
        · rfl
        · exact spanLine_twice d line
noncomputable def runRows : List (Nat × Nat × D) → Int → List RowB
  | [], _ => []
  | r :: rs, line => wrRows (r.2.1 - r.1) r.2.2 line ++ runRows rs (spanLine r.2.2 line)
def runSpans (rs : List (Nat × Nat × D)) : List D := rs.flatMap fun r => List.replicate (r.2.1 - r.1) r.2.2
@[simp] theorem runSpans_nil : runSpans [] = [] := rfl
@[simp] theorem runSpans_cons (r : Nat × Nat × D) (rs : List (Nat × Nat × D)) : runSpans (r :: rs) = List.replicate (r.2.1 - r.1) r.2.2 ++ runSpans rs := rfl
theorem runRows_ok : ∀ (rs : List (Nat × Nat × D)) (a : Nat) {line : Int}, RunsOk a rs → LineOk line → RowsB line (runRows rs line) ∧ rowBytes (runRows rs line) = writeRuns rs line ∧ rowSpans (runRows rs line) = runSpans rs
  | [], a, line, _, _ => ⟨trivial, rfl, rfl⟩
  | r :: rs, a, line, h, hl => by
    obtain ⟨h1, h2, h3, h4⟩ := h
    obtain ⟨i1, i2, i3⟩ := runRows_ok rs r.2.1 h4 (spanLine_ok h3 hl)
    obtain ⟨j1, j2, j3, j4⟩ := wrRows_ok h3 (r.2.1 - r.1) hl
    have hn : ¬ r.2.1 - r.1 = 0 := by omega
    rw [if_neg hn] at j4
    refine ⟨rowsB_app.mpr ⟨j1, by rw [j4]; exact i1⟩, ?_, ?_⟩
    · show rowBytes (_ ++ _) = _ ++ _
      rw [rowBytes_app, j2, i2]
    · show rowSpans (_ ++ _) = _
      rw [rowSpans_app, j3, i3]; rfl
theorem runsFrom_flat : ∀ (xs : List D) (step start : Nat), start ≤ step → ∀ d r, xs = d :: r → runSpans (runsFrom step start xs) = List.replicate (step - start) d ++ xs
  | [], _, _, _, _, _, h => by cases h
  | [d], step, start, hs, d0, r0, h => by
    cases h
    simp only [runsFrom, runSpans_cons, runSpans_nil, List.append_nil]
    have : step + 1 - start = (step - start) + 1 := by omega
    rw [this, List.replicate_succ']
  | d :: d' :: r, step, start, hs, d0, r0, h => by
    cases h
    rw [runsFrom]
    split
    · rename_i hd
      have e := (same_true d' d).mp hd
      subst e
      rw [runsFrom_flat (d' :: r) (step + 1) start (by omega) d' r rfl]
      have : step + 1 - start = (step - start) + 1 := by omega
      rw [this, List.replicate_succ']; simp
    · rw [runSpans_cons, runsFrom_flat (d' :: r) (step + 1) (step + 1) (by omega) d' r rfl]
      simp only [Nat.sub_self, List.replicate_zero, List.nil_append]
      have : step + 1 - start = (step - start) + 1 := by omega
      rw [this, List.replicate_succ']; simp
theorem runs_flat (xs : List D) : runSpans (runs xs) = xs := by
  cases xs with
  | nil => rfl
  | cons d r =>
    have := runsFrom_flat (d :: r) 0 0 (Nat.le_refl _) d r rfl
    simpa [runs] using this
noncomputable def ofEnts (xs : List D) (line : Int) : List Ent := rowEnts 0 (runRows (runs xs) line)
theorem readAll_of {xs : List D} (h : ∀ x ∈ xs, SpanD x) {line : Int} (hl : LineOk line) : readAll (writeSpans xs line) line = .ok (ofEnts xs line) ∧ spansOf (ofEnts xs line) = xs := by
  obtain ⟨i1, i2, i3⟩ := runRows_ok (runs xs) 0 (runs_ok h).1 hl
  unfold ofEnts writeSpans
  rw [← i2, spansOf_rows, i3, runs_flat]
  exact ⟨readAll_rows i1, rfl⟩
/-- the table that is written for spans -/
noncomputable def ofD (xs : List D) (line : Int) : D := tabD (writeSpans xs line) line (ofEnts xs line)
theorem Table_of_eq (S : Sto) {v : D} {xs : List D} (hv : RowD v xs) (h : ∀ x ∈ xs, SpanD x) (hn : xs.length ≤ 40000) {line : Int} (hl : LineOk line) :
    m_Table_of [v, .int line] S = .ok (ofD xs line) [] S := by
  have := Table_of_sp S hv h hn hl
  unfold TabSp at this
  rw [(readAll_of h hl).1] at this
  exact this
theorem ofEnts_ok {xs : List D} (h : ∀ x ∈ xs, SpanD x) {line : Int} (hl : LineOk line) : EntsOk (ofEnts xs line) := (readAll_all (readAll_of h hl).1).2
end Mir.Sh
end

/-! ShRl -/
section
set_option linter.all false
/-! ShRl: runs by their lengths. -/
namespace Mir.Sh
open Mir
theorem run_split : ∀ (d : D) (r : List D), ∃ n ys, d :: r = List.replicate (n + 1) d ++ ys ∧ ys.head? ≠ some d ∧ ys.length ≤ r.length
  | d, [] => ⟨0, [], rfl, by simp, Nat.le_refl _⟩
  | d, e :: r => by
    by_cases h : e = d
    · subst h
      obtain ⟨n, ys, h1, h2, h3⟩ := run_split e r
      refine ⟨n + 1, ys, ?_, h2, by simp; omega⟩
      rw [h1, List.replicate_succ (n := n + 1)]; rfl
    · exact ⟨0, e :: r, rfl, by simp [h], Nat.le_refl _⟩
theorem run_ind {P : List D → Prop} (h0 : P []) (h1 : ∀ n d ys, ys.head? ≠ some d → P ys → P (List.replicate (n + 1) d ++ ys)) : ∀ xs, P xs := by
  intro xs
  generalize hk : xs.length = k
  induction k using Nat.strongRecOn generalizing xs with
  | ind k ih =>
    cases xs with
    | nil => exact h0
    | cons d r =>
      obtain ⟨n, ys, e1, e2, e3⟩ := run_split d r
      rw [e1]
      exact h1 n d ys e2 (ih ys.length (by simp at hk; omega) ys rfl)
/-- runs: length, value -/
noncomputable def rl (xs : List D) : List (Nat × D) := (runs xs).map fun r => (r.2.1 - r.1, r.2.2)
theorem runsFrom_rep (d : D) (ys : List D) (h : ys.head? ≠ some d) : ∀ (n step start : Nat), runsFrom step start (List.replicate (n + 1) d ++ ys) = (start, step + n + 1, d) :: runsFrom (step + n + 1) (step + n + 1) ys
  | 0, step, start => by
    cases ys with
    | nil => simp [runsFrom]
    | cons e r =>
      have hne : same e d = false := (same_false e d).mpr (by simpa using h)
      show runsFrom step start (d :: e :: r) = _
      rw [runsFrom, hne]
      simp
  | n + 1, step, start => by
    have e : List.replicate (n + 1 + 1) d ++ ys = d :: d :: (List.replicate n d ++ ys) := by simp [List.replicate_succ]
    have e2 : d :: (List.replicate n d ++ ys) = List.replicate (n + 1) d ++ ys := by simp [List.replicate_succ]
    rw [e, runsFrom, same_self, if_pos rfl, e2, runsFrom_rep d ys h n (step + 1) start]
    have : step + 1 + n + 1 = step + (n + 1) + 1 := by omega
    rw [this]
theorem rlFrom_shift : ∀ (xs : List D) (a b : Nat), (runsFrom a a xs).map (fun r => (r.2.1 - r.1, r.2.2)) = (runsFrom b b xs).map (fun r => (r.2.1 - r.1, r.2.2)) := by
  refine run_ind (fun a b => rfl) ?_
  intro n d ys h ih a b
  rw [runsFrom_rep d ys h, runsFrom_rep d ys h, List.map_cons, List.map_cons, ih (a + n + 1) (b + n + 1)]
  congr 2
  simp only; omega
@[simp] theorem rl_nil : rl [] = [] := rfl
theorem rl_rep (n : Nat) (d : D) (ys : List D) (h : ys.head? ≠ some d) : rl (List.replicate (n + 1) d ++ ys) = (n + 1, d) :: rl ys := by
  unfold rl runs
  rw [runsFrom_rep d ys h, List.map_cons, rlFrom_shift ys (0 + n + 1) 0]
  congr 2
  simp only; omega
noncomputable def wrL : List (Nat × D) → Int → List Nat
  | [], _ => []
  | r :: rs, line => writeRun r.1 r.2 line ++ wrL rs (spanLine r.2 line)
theorem writeRuns_L : ∀ (rs : List (Nat × Nat × D)) (line : Int), writeRuns rs line = wrL (rs.map fun r => (r.2.1 - r.1, r.2.2)) line
  | [], _ => rfl
  | r :: rs, line => by rw [writeRuns, List.map_cons, wrL, writeRuns_L rs]
theorem writeSpans_L (xs : List D) (line : Int) : writeSpans xs line = wrL (rl xs) line := writeRuns_L _ _
@[simp] theorem writeSpans_nil (line : Int) : writeSpans [] line = [] := rfl
theorem writeSpans_rep (n : Nat) (d : D) (ys : List D) (h : ys.head? ≠ some d) (line : Int) : writeSpans (List.replicate (n + 1) d ++ ys) line = writeRun (n + 1) d line ++ writeSpans ys (spanLine d line) := by
  rw [writeSpans_L, writeSpans_L, rl_rep n d ys h, wrL]
/-- leading values that are d, at most k -/
noncomputable def lead (d : D) : Nat → List D → Nat
  | 0, _ => 0
  | _, [] => 0
  | k + 1, e :: r => if same e d = true then 1 + lead d k r else 0
theorem lead_le (d : D) : ∀ (k : Nat) (xs : List D), lead d k xs ≤ k ∧ lead d k xs ≤ xs.length
  | 0, xs => by simp [lead]
  | k + 1, [] => by simp [lead]
  | k + 1, e :: r => by
    rw [lead]
    have := lead_le d k r
    split
    · simp; omega
    · simp
theorem lead_rep (d : D) (ys : List D) (h : ys.head? ≠ some d) : ∀ (n k : Nat), lead d k (List.replicate n d ++ ys) = min n k
  | n, 0 => by simp [lead]
  | 0, k + 1 => by
    cases ys with
    | nil => simp [lead]
    | cons e r =>
      have hne : same e d = false := (same_false e d).mpr (by simpa using h)
      simp [lead, hne]
  | n + 1, k + 1 => by
    rw [List.replicate_succ, List.cons_append, lead, same_self, if_pos rfl, lead_rep d ys h n k]
    omega
/-- step by step: the next entry takes as many steps as are equal, at most 8 -/
theorem writeSpans_step (d : D) (r : List D) (line : Int) : writeSpans (d :: r) line = entB (1 + lead d 7 r) d line ++ writeSpans ((d :: r).drop (1 + lead d 7 r)) (spanLine d line) := by
  obtain ⟨n, ys, e1, e2, e3⟩ := run_split d r
  have er : r = List.replicate n d ++ ys := by
    rw [List.replicate_succ, List.cons_append] at e1
    exact (List.cons.inj e1).2
  have hl : lead d 7 r = min n 7 := by rw [er]; exact lead_rep d ys e2 n 7
  rw [hl, e1, writeSpans_rep n d ys e2, writeRun, if_neg (by omega)]
  have hm : min (n + 1) 8 = 1 + min n 7 := by omega
  rw [hm]
  by_cases h : n + 1 - (1 + min n 7) = 0
  · rw [h, writeRun, if_pos rfl, List.append_nil]
    have : (List.replicate (n + 1) d ++ ys).drop (1 + min n 7) = ys := by
      rw [List.drop_append, List.drop_eq_nil_of_le (by simp; omega)]
      have : 1 + min n 7 - (List.replicate (n + 1) d).length = 0 := by simp; omega
      rw [this]; rfl
    rw [this]
  · obtain ⟨m, hm2⟩ : ∃ m, n + 1 - (1 + min n 7) = m + 1 := ⟨n + 1 - (1 + min n 7) - 1, by omega⟩
    have : (List.replicate (n + 1) d ++ ys).drop (1 + min n 7) = List.replicate (m + 1) d ++ ys := by
      rw [List.drop_append, List.drop_replicate, hm2]
      have : 1 + min n 7 - (List.replicate (n + 1) d).length = 0 := by simp; omega
      rw [this]; rfl
    rw [this, writeSpans_rep m d ys e2, hm2, List.append_assoc]
    congr 2
    rw [spanLine_twice]
end Mir.Sh
end

/-! ShMin -/
section
set_option linter.all false
/-! ShMin: no data with the same spans is shorter than what is written. -/
namespace Mir.Sh
open Mir
theorem groups_pos (n : Nat) : 1 ≤ (groups n).length := by rw [groups]; split <;> simp
theorem groups_big {n : Nat} (h : ¬ n < 64) : (groups n).length = (groups (n / 64)).length + 1 := by
  conv => lhs; rw [groups]
  simp [h]
theorem groups_mono : ∀ (m n : Nat), m ≤ n → (groups m).length ≤ (groups n).length := by
  intro m
  induction m using Nat.strongRecOn with
  | ind m ih =>
    intro n h
    by_cases h1 : m < 64
    · have := groups_pos n
      have e : groups m = [m] := by rw [groups, if_pos h1]
      rw [e]; exact this
    · rw [groups_big h1, groups_big (n := n) (by omega)]
      have := ih (m / 64) (by omega) (n / 64) (by omega)
      omega
theorem groups_le {n k : Nat} (h : n < 64 ^ k) (hk : 1 ≤ k) : (groups n).length ≤ k := by
  obtain ⟨k, rfl⟩ : ∃ j, k = j + 1 := ⟨k - 1, by omega⟩
  exact groups_len k n h
theorem numO_val {bs : List Nat} : ∀ {n f w k k' m : Nat}, numO bs n f w k = .ok (some m, k') → f < w → k < k' ∧ m < w * 64 ^ (k' - k)
  | 0, f, w, k, k', m, h, _ => by cases h
  | n + 1, f, w, k, k', m, h, hf => by
    rw [numO] at h
    split at h
    · cases h
    · rename_i b k1 e
      have hk := nextB_ok e
      split at h
      · rename_i hb
        cases h
        refine ⟨by omega, ?_⟩
        have : k' - k = 1 := by omega
        rw [this, Nat.pow_one]
        have : b * w ≤ 63 * w := Nat.mul_le_mul (by omega) (Nat.le_refl _)
        have e2 : w * 64 = 63 * w + w := by omega
        omega
      · have hb : b % 64 * w ≤ 63 * w := Nat.mul_le_mul (by omega) (Nat.le_refl _)
        have := numO_val h (by omega)
        refine ⟨by omega, ?_⟩
        have e1 : k' - k = (k' - k1) + 1 := by omega
        rw [e1, Nat.pow_succ, Nat.mul_comm (64 ^ (k' - k1)) 64, ← Nat.mul_assoc]
        exact this.2
theorem number_val {bs : List Nat} {k n k' : Nat} (h : number bs k = .ok (n, k')) : k + (groups n).length ≤ k' := by
  unfold number at h
  split at h
  · cases h
  · rename_i e
    cases h
    have := numO_val e (by omega)
    have g := groups_le (n := n) (k := k' - k) (by simpa using this.2) (by omega)
    omega
  · cases h
theorem fold_unfold (n : Nat) : fold (unfoldN n) ≤ n := by
  unfold fold unfoldN
  split <;> split <;> omega
theorem signed_val {bs : List Nat} {k k' : Nat} {z : Int} (h : signed bs k = .ok (z, k')) : k + (groups (fold z)).length ≤ k' := by
  unfold signed at h
  split at h
  · cases h
  · rename_i n k1 e
    cases h
    have := number_val e
    have := groups_mono _ _ (fold_unfold n)
    omega
/-- the bytes of the shortest entry -/
def cost (d : D) (line : Int) : Nat := 1 + (bodyOf d line).2.length
theorem entB_len (many : Nat) (d : D) (line : Int) : (entB many d line).length = cost d line := by simp [entB, cost]; omega
theorem mcol_inv {n : Nat} {c : Int} (h : mcol n = .int c) : c = (n : Int) - 1 ∧ 1 ≤ n := by
  unfold mcol at h
  split at h
  · cases h
  · cases h; exact ⟨rfl, by omega⟩
theorem cost_four (l k c b line : Int) : cost (.tup [.int l, .int k, .int c, .int b]) line = if l = k ∧ l - line = 0 ∧ c < 80 ∧ b - c < 16 then 2 else if l = k ∧ 0 ≤ l - line ∧ l - line ≤ 2 ∧ b < 128 then 3 else 1 + (groups (fold (l - line))).length + (groups (k - l).toNat).length + (groups (c + 1).toNat).length + (groups (b + 1).toNat).length := by
  unfold cost bodyOf
  dsimp only
  split
  · rfl
  · split
    · rfl
    · simp; omega
theorem cost_two (l k line : Int) : cost (.tup [.int l, .int k, .non, .non]) line = 1 + (groups (fold (l - line))).length := rfl
theorem cost_non (line : Int) : cost .non line = 1 := rfl
theorem nextB_byte {bs : List Nat} {k b k' : Nat} (h : nextB bs k = .ok (b, k')) : b < 128 ∧ k' = k + 1 := ⟨(nextB_ok h).2.2, (nextB_ok h).1⟩
/-- an entry is not shorter than the shortest one of its span -/
theorem readEntry_cost {bs : List Nat} {a : Nat} {line : Int} {e : Ent} (ha : a < bs.length) (h : readEntry bs a line = .ok e) : a + cost e.span line ≤ e.stop := by
  have hs := (readEntry_ok ha h).2.2.1
  unfold readEntry at h
  dsimp only at h
  split at h
  · cases h
  · split at h
    · cases h; show a + cost .non line ≤ a + 1; rw [cost_non]; omega
    · rename_i hf
      generalize bs.getD a 0 / 8 % 16 = f at h hf
      split at h
      · cases h
      · rename_i r k e1
        split at h
        · cases h
        · cases h
          dsimp only at hs ⊢
          unfold rawSpan at e1
          split at e1
          · rename_i h10
            split at e1
            · cases e1
            · rename_i b k1 e2
              cases e1
              have := nextB_byte e2
              simp only [rawD]
              rw [cost_four, if_pos (by omega)]
              omega
          · split at e1
            · rename_i h10 h13
              split at e1
              · cases e1
              · rename_i c k1 e2
                split at e1
                · cases e1
                · rename_i d k2 e3
                  cases e1
                  have := nextB_byte e2
                  have := nextB_byte e3
                  simp only [rawD]
                  rw [cost_four]
                  split
                  · omega
                  · rw [if_pos (by omega)]; omega
            · split at e1
              · cases e1
              · rename_i z k1 e2
                have v1 := signed_val e2
                split at e1
                · cases e1
                  simp only [rawD]
                  have t : line + z - line = z := by omega
                  rw [cost_two, t]; omega
                · split at e1
                  · cases e1
                  · rename_i m k2 e3
                    have v2 := number_val e3
                    split at e1
                    · cases e1
                    · rename_i c k3 e4
                      have v3 := number_val e4
                      split at e1
                      · cases e1
                      · rename_i d k4 e5
                        have v4 := number_val e5
                        cases e1
                        simp only [rawD] at hs ⊢
                        have t : line + z - line = z := by omega
                        have p1 := groups_pos m
                        have p2 := groups_pos c
                        have p3 := groups_pos d
                        have p4 := groups_pos (fold z)
                        rcases mcol_cases c with mc | ⟨cc, mc, _⟩
                        · rcases mcol_cases d with md | ⟨dd, md, _⟩
                          · rw [mc, md, cost_two, t]; omega
                          · rw [mc, md] at hs
                            rcases hs with q | ⟨l, q, _⟩ | ⟨l, u, c', b', q, _⟩ <;> simp at q
                        · rcases mcol_cases d with md | ⟨dd, md, _⟩
                          · rw [mc, md] at hs
                            rcases hs with q | ⟨l, q, _⟩ | ⟨l, u, c', b', q, _⟩ <;> simp at q
                          · have i1 := mcol_inv mc
                            have i2 := mcol_inv md
                            have j1 : (cc + 1).toNat = c := by omega
                            have j2 : (dd + 1).toNat = d := by omega
                            have j3 : (line + z + (m : Int) - (line + z)).toNat = m := by omega
                            rw [mc, md, cost_four, t, j1, j2, j3]
                            split
                            · omega
                            · split
                              · omega
                              · omega
/-! ### runs -/
theorem writeRun_cost {d : D} : ∀ (n : Nat) (line : Int), 1 ≤ n → (writeRun n d line).length = cost d line + ((n + 7) / 8 - 1) * cost d (spanLine d line) := by
  intro n
  induction n using Nat.strongRecOn with
  | ind n ih =>
    intro line h
    rw [writeRun, if_neg (by omega), List.length_append, entB_len]
    by_cases h8 : n ≤ 8
    · have e1 : n - min n 8 = 0 := by omega
      have e2 : (n + 7) / 8 - 1 = 0 := by omega
      rw [e1, e2, writeRun, if_pos rfl]; simp
    · rw [ih (n - min n 8) (by omega) (spanLine d line) (by omega), spanLine_twice]
      obtain ⟨k, hk⟩ : ∃ k, (n + 7) / 8 - 1 = k + 1 := ⟨(n + 7) / 8 - 2, by omega⟩
      have e1 : (n - min n 8 + 7) / 8 - 1 = k := by omega
      rw [e1, hk, Nat.add_mul]
      omega
theorem spanLine_cost {d : D} (h : SpanD d) {line : Int} : cost d (spanLine d line) ≤ cost d line := by
  rcases h with rfl | ⟨l, rfl, _⟩ | ⟨l, k, c, b, rfl, g1, g2, g3, g4⟩
  · exact Nat.le_refl _
  · show cost _ l ≤ _
    rw [cost_two, cost_two]
    have : l - l = 0 := by omega
    rw [this]
    have := groups_mono (fold 0) (fold (l - line)) (by unfold fold; split <;> split <;> omega)
    omega
  · show cost _ l ≤ _
    rw [cost_four, cost_four]
    have e : l - l = 0 := by omega
    rw [e]
    have m0 := groups_mono (fold 0) (fold (l - line)) (by unfold fold; split <;> split <;> omega)
    have p1 := groups_pos (fold 0)
    have p2 := groups_pos (k - l).toNat
    have p3 := groups_pos (c + 1).toNat
    have p4 := groups_pos (b + 1).toNat
    split <;> split <;> (try split) <;> (try split) <;> omega
/-- pieces: steps, span -/
def flat (ps : List (Nat × D)) : List D := ps.flatMap fun p => List.replicate p.1 p.2
@[simp] theorem flat_nil : flat [] = [] := rfl
@[simp] theorem flat_cons (p : Nat × D) (ps : List (Nat × D)) : flat (p :: ps) = List.replicate p.1 p.2 ++ flat ps := rfl
def costL : Int → List (Nat × D) → Nat
  | _, [] => 0
  | line, p :: ps => cost p.2 line + costL (spanLine p.2 line) ps
theorem min_pieces : ∀ (t : List (Nat × D)), (∀ p ∈ t, SpanD p.2 ∧ 1 ≤ p.1 ∧ p.1 ≤ 8) → ∀ (d : D) (N j : Nat) (L : Int), SpanD d → 1 ≤ N → N ≤ 8 * j →
    (writeSpans (List.replicate N d ++ flat t) L).length ≤ cost d L + (j - 1) * cost d (spanLine d L) + costL (spanLine d L) t
  | [], _, d, N, j, L, hd, h1, h2 => by
    obtain ⟨N, rfl⟩ : ∃ m, N = m + 1 := ⟨N - 1, by omega⟩
    rw [flat_nil, writeSpans_rep N d [] (by simp), writeSpans_nil, List.append_nil, writeRun_cost (N + 1) L (by omega)]
    have : ((N + 1 + 7) / 8 - 1) * cost d (spanLine d L) ≤ (j - 1) * cost d (spanLine d L) := Nat.mul_le_mul (by omega) (Nat.le_refl _)
    simp only [costL]; omega
  | (k, e) :: t, ht, d, N, j, L, hd, h1, h2 => by
    obtain ⟨he, k1, k2⟩ := ht (k, e) List.mem_cons_self
    simp only at he k1 k2
    have ht' := fun p hp => ht p (List.mem_cons_of_mem _ hp)
    by_cases hde : e = d
    · subst hde
      have ih := min_pieces t ht' e (N + k) (j + 1) L hd (by omega) (by omega)
      have er : List.replicate N e ++ flat ((k, e) :: t) = List.replicate (N + k) e ++ flat t := by
        rw [flat_cons, ← List.append_assoc, List.replicate_append_replicate]
      have ec : costL (spanLine e L) ((k, e) :: t) = cost e (spanLine e L) + costL (spanLine e L) t := by
        show cost e (spanLine e L) + costL (spanLine e (spanLine e L)) t = _
        rw [spanLine_twice]
      rw [er, ec]
      obtain ⟨j, rfl⟩ : ∃ i, j = i + 1 := ⟨j - 1, by omega⟩
      have : (j + 1 + 1 - 1) * cost e (spanLine e L) = (j + 1 - 1) * cost e (spanLine e L) + cost e (spanLine e L) := by
        have a : j + 1 + 1 - 1 = j + 1 := by omega
        have b : j + 1 - 1 = j := by omega
        rw [a, b, Nat.add_mul, Nat.one_mul]
      omega
    · obtain ⟨N, rfl⟩ : ∃ m, N = m + 1 := ⟨N - 1, by omega⟩
      have ih := min_pieces t ht' e k 1 (spanLine d L) he k1 (by omega)
      have hh : (flat ((k, e) :: t)).head? ≠ some d := by
        obtain ⟨k, rfl⟩ : ∃ m, k = m + 1 := ⟨k - 1, by omega⟩
        simp [List.replicate_succ, hde]
      rw [writeSpans_rep N d _ hh, List.length_append, writeRun_cost (N + 1) L (by omega)]
      have : ((N + 1 + 7) / 8 - 1) * cost d (spanLine d L) ≤ (j - 1) * cost d (spanLine d L) := Nat.mul_le_mul (by omega) (Nat.le_refl _)
      have ec : costL (spanLine d L) ((k, e) :: t) = cost e (spanLine d L) + costL (spanLine e (spanLine d L)) t := rfl
      rw [ec]
      rw [flat_cons]
      dsimp only
      simp only [Nat.sub_self, Nat.zero_mul, Nat.add_zero] at ih
      omega
theorem min_flat (ps : List (Nat × D)) (h : ∀ p ∈ ps, SpanD p.2 ∧ 1 ≤ p.1 ∧ p.1 ≤ 8) (L : Int) : (writeSpans (flat ps) L).length ≤ costL L ps := by
  cases ps with
  | nil => simp [costL]
  | cons p ps =>
    obtain ⟨k, d⟩ := p
    obtain ⟨h1, h2, h3⟩ := h (k, d) List.mem_cons_self
    have := min_pieces ps (fun p hp => h p (List.mem_cons_of_mem _ hp)) d k 1 L h1 h2 (by omega)
    simp only [Nat.sub_self, Nat.zero_mul, Nat.add_zero] at this
    exact this
theorem readFrom_cost {bs : List Nat} : ∀ {n a : Nat} {line : Int} {es : List Ent}, readFrom bs n a line = .ok es → a ≤ bs.length → a + costL line (es.map fun e => (e.steps, e.span)) ≤ bs.length
  | 0, a, line, es, h, ha => by cases h; simpa [costL] using ha
  | n + 1, a, line, es, h, ha => by
    rw [readFrom] at h
    split at h
    · rename_i h0
      split at h
      · cases h
      · rename_i e he
        split at h
        · cases h
        · rename_i es' hes
          cases h
          have := readEntry_ok h0 he
          have c := readEntry_cost h0 he
          have ih := readFrom_cost hes this.2.1
          simp only [List.map_cons, costL]
          omega
    · cases h; simpa [costL] using ha
/-- no data with the same spans is shorter -/
theorem shortest_len {bs : List Nat} {line : Int} {es : List Ent} (h : readAll bs line = .ok es) : (writeSpans (spansOf es) line).length ≤ bs.length := by
  have c := readFrom_cost h (Nat.zero_le _)
  have ok := (readAll_all h).2
  have m := min_flat (es.map fun e => (e.steps, e.span)) (by
    intro p hp
    obtain ⟨e, he, rfl⟩ := List.mem_map.mp hp
    exact ok e he) line
  have e : flat (es.map fun e => (e.steps, e.span)) = spansOf es := by
    unfold flat spansOf
    rw [List.flatMap_map]
  rw [e] at m
  omega
end Mir.Sh
end

/-! ShDat -/
section
set_option linter.all false
/-! ShDat: values that == tells apart. -/
namespace Mir.Sh
open Mir
/-- none, ints, texts, lists and tuples of these, n deep -/
def dat : Nat → D → Bool
  | _, .non => true
  | _, .int _ => true
  | _, .str s => s.all fun c => decide (c < 1114112)
  | n + 1, .lst xs => xs.all (dat n)
  | n + 1, .tup xs => xs.all (dat n)
  | _, _ => false
@[simp] theorem dat_non (n : Nat) : dat n .non = true := by cases n <;> rfl
@[simp] theorem dat_int (n : Nat) (i : Int) : dat n (.int i) = true := by cases n <;> rfl
@[simp] theorem dat_str (n : Nat) (s : List Nat) : dat n (.str s) = s.all fun c => decide (c < 1114112) := by cases n <;> rfl
@[simp] theorem dat_lst (n : Nat) (xs : List D) : dat (n + 1) (.lst xs) = xs.all (dat n) := by rw [dat]
@[simp] theorem dat_tup (n : Nat) (xs : List D) : dat (n + 1) (.tup xs) = xs.all (dat n) := by rw [dat]
theorem dat_data : ∀ (n : Nat) (d : D), dat n d = true → D.dataN n d = true := by
  intro n
  induction n with
  | zero =>
    intro d h
    cases d <;> first | (simp [dat] at h; done) | skip
    · simp
    · simp
    · rw [dat_str] at h; exact h
  | succ n ih =>
    intro d h
    cases d <;> first | (simp [dat] at h; done) | skip
    · simp
    · simp
    · rw [dat_str] at h; exact h
    · rw [dat_lst, List.all_eq_true] at h
      rw [D.dataN]
      simp only [Nat.zero_lt_succ, decide_true, Bool.true_and, Nat.add_sub_cancel]
      exact dataL_all fun x hx => ih x (h x hx)
    · rw [dat_tup, List.all_eq_true] at h
      rw [D.dataN]
      simp only [Nat.zero_lt_succ, decide_true, Bool.true_and, Nat.add_sub_cancel]
      exact dataL_all fun x hx => ih x (h x hx)
theorem same_of {x y : D} {b : Bool} (h : b = true ↔ x = y) : b = same x y := by
  by_cases e : x = y
  · rw [(same_true x y).mpr e, h.mpr e]
  · rw [(same_false x y).mpr e]
    cases b with
    | false => rfl
    | true => exact absurd (h.mp rfl) e
theorem eqvL_iff {P : D → D → Prop} : ∀ {xs ys : List D}, (∀ x ∈ xs, ∀ y ∈ ys, (x.eqv y = true ↔ x = y)) → (eqvL xs ys = true ↔ xs = ys)
  | [], [], _ => by simp [eqvL]
  | [], _ :: _, _ => by simp [eqvL]
  | _ :: _, [], _ => by simp [eqvL]
  | x :: xs, y :: ys, h => by
    have h1 := h x List.mem_cons_self y List.mem_cons_self
    have ih := eqvL_iff (P := P) (xs := xs) (ys := ys) fun a ha b hb => h a (List.mem_cons_of_mem _ ha) b (List.mem_cons_of_mem _ hb)
    rw [eqvL, Bool.and_eq_true, h1, ih]
    simp
theorem dat_eqv : ∀ (n : Nat) (x : D) (m : Nat) (y : D), dat n x = true → dat m y = true → (x.eqv y = true ↔ x = y) := by
  intro n
  induction n with
  | zero =>
    intro x m y hx hy
    cases x <;> first | (simp [dat] at hx; done) | skip
    all_goals
      cases y <;> first | (cases m <;> simp [dat] at hy; done) | skip
      all_goals first | (simp [D.eqv]; done) | skip
  | succ n ih =>
    intro x m y hx hy
    cases x <;> first | (simp [dat] at hx; done) | skip
    case lst xs =>
      cases y <;> first | (cases m <;> simp [dat] at hy; done) | skip
      case lst ys =>
        obtain ⟨m, rfl⟩ : ∃ k, m = k + 1 := by
          cases m with
          | zero => simp [dat] at hy
          | succ k => exact ⟨k, rfl⟩
        rw [dat_lst, List.all_eq_true] at hx hy
        rw [D.eqv, eqvL_iff (P := fun _ _ => True) fun a ha b hb => ih a m b (hx a ha) (hy b hb)]
        simp
      all_goals simp [D.eqv]
    case tup xs =>
      cases y <;> first | (cases m <;> simp [dat] at hy; done) | skip
      case tup ys =>
        obtain ⟨m, rfl⟩ : ∃ k, m = k + 1 := by
          cases m with
          | zero => simp [dat] at hy
          | succ k => exact ⟨k, rfl⟩
        rw [dat_tup, List.all_eq_true] at hx hy
        rw [D.eqv, eqvL_iff (P := fun _ _ => True) fun a ha b hb => ih a m b (hx a ha) (hy b hb)]
        simp
      all_goals simp [D.eqv]
    all_goals
      cases y <;> first | (cases m <;> simp [dat] at hy; done) | skip
      all_goals first | (simp [D.eqv]; done) | skip
theorem dat_nr {n : Nat} {d : D} (h : dat n d = true) : d.isRef = false := by
  cases d <;> first | rfl | (cases n <;> simp [dat] at h)
theorem dat_cmp {n m : Nat} {x y : D} (hx : dat n x = true) (hy : dat m y = true) (hn : n ≤ 16) (hm : m ≤ 16) : Cmp x y := fun S => by
  have up : ∀ (k : Nat) (d : D) (j : Nat), dat k d = true → k ≤ j → dat j d = true := by
    intro k
    induction k with
    | zero =>
      intro d j h _
      cases d <;> first | (simp [dat] at h; done) | skip
      · simp
      · simp
      · simpa using h
    | succ k ih =>
      intro d j h hj
      obtain ⟨j, rfl⟩ : ∃ i, j = i + 1 := ⟨j - 1, by omega⟩
      cases d <;> first | (simp [dat] at h; done) | skip
      · simp
      · simp
      · simpa using h
      · rw [dat_lst, List.all_eq_true] at h ⊢
        exact fun x hx => ih x j (h x hx) (by omega)
      · rw [dat_tup, List.all_eq_true] at h ⊢
        exact fun x hx => ih x j (h x hx) (by omega)
  unfold eqS eqD
  rw [deref_nr S (dat_nr hx), deref_nr S (dat_nr hy), dat_data 16 x (up n x 16 hx hn), dat_data 16 y (up m y 16 hy hm)]
  simp only [Bool.and_self, if_true]
  rw [same_of (dat_eqv n x m y hx hy)]
theorem span_dat {d : D} (h : SpanD d) : dat 1 d = true := by
  rcases h with rfl | ⟨_, rfl, _⟩ | ⟨_, _, _, _, rfl, _⟩ <;> simp
theorem spans_dat {xs : List D} (h : ∀ x ∈ xs, SpanD x) : dat 2 (.lst xs) = true := by
  rw [dat_lst, List.all_eq_true]
  exact fun x hx => span_dat (h x hx)
theorem nums_dat (xs : List Nat) : dat 1 (.lst (nums xs)) = true := by
  rw [dat_lst, List.all_eq_true]
  intro x hx
  obtain ⟨k, _, rfl⟩ := List.mem_map.mp hx
  simp
/-- equal data -/
theorem eq_same {n m : Nat} {x : D} (hx : dat n x = true) (hn : n ≤ 16) (S : Sto) : eqS S x x = some true := by
  rw [dat_cmp hx hx hn hn, same_self]
theorem ne_same {n : Nat} {x : D} (hx : dat n x = true) (hn : n ≤ 16) (S : Sto) : neS S x x = some false := by
  rw [(dat_cmp hx hx hn hn).ne, same_self]; rfl
theorem cps_ok (s : String) : (cps s).all (fun c => decide (c < 1114112)) = true := by
  rw [List.all_eq_true]
  intro c hc
  obtain ⟨x, _, rfl⟩ := List.mem_map.mp hc
  have h := x.valid
  have : x.toNat < 1114112 := by
    rcases h with h | h
    · exact Nat.lt_trans h (by decide)
    · exact h.2
  exact decide_eq_true this
@[simp] theorem dat_cps (n : Nat) (s : String) : dat n (.str (cps s)) = true := by rw [dat_str]; exact cps_ok s
/-! ### slices -/
@[simp] theorem cutL_to {α : Type} (xs : List α) (n : Nat) : cutL xs none (some (n : Int)) = xs.take n := by
  unfold cutL cutI
  have : ¬ (n : Int) < 0 := by omega
  simp only [List.drop_zero, this, if_false, Int.toNat_natCast, Nat.sub_zero]
  rw [Nat.min_def]
  split
  · rfl
  · rw [List.take_of_length_le (Nat.le_refl _), List.take_of_length_le (by omega)]
@[simp] theorem cutL_from {α : Type} (xs : List α) (n : Nat) : cutL xs (some (n : Int)) none = xs.drop n := by
  unfold cutL cutI
  have : ¬ (n : Int) < 0 := by omega
  simp only [this, if_false, Int.toNat_natCast]
  by_cases h : n ≤ xs.length
  · rw [Nat.min_eq_left h, List.take_of_length_le (by simp)]
  · rw [Nat.min_eq_right (by omega), List.drop_length, List.drop_eq_nil_of_le (by omega), List.take_nil]
@[simp] theorem cutL_all {α : Type} (xs : List α) : cutL xs none none = xs := by
  unfold cutL cutI
  simp
end Mir.Sh
end

/-! ShSpans -/
section
set_option linter.all false
/-! ShSpans: drawn spans. -/
namespace Mir.Sh
open Mir
/-- what holds over a well wherever it lies holds over one laid last but some -/
theorem give_app {m : SF} {args : Nat → List D} {P : D → Prop} (h : ∀ (T : Sto) (i : Nat) (p : Int × Int), i < T.length → Gives (m (args i) (T.set i (wellOb p))) T i P) (S : Sto) (p : Int × Int) (l : Sto) :
    ∃ d q, m (args S.length) (S ++ wellOb p :: l) = .ok d [] (S ++ wellOb q :: l) ∧ P d := by
  have e : S ++ wellOb p :: l = (S ++ wellOb p :: l).set S.length (wellOb p) := by rw [app_set]
  obtain ⟨d, q, h, hd⟩ := (h (S ++ wellOb p :: l) S.length p (by simp)).inv
  rw [← e, app_set] at h
  exact ⟨d, q, h, hd⟩
def SpansD (xs : List D) : Prop := ∀ x ∈ xs, SpanD x
@[simp] theorem rngI_0 (n : Int) (h1 : -4611686018427387904 ≤ n) (h2 : n < 4611686018427387904) : rngI 0 n = some ((List.range n.toNat).map fun (i : Nat) => .int (0 + (i : Int))) := by
  unfold rngI
  rw [if_pos ⟨⟨by decide, by decide⟩, h1, h2⟩]
  simp
theorem spansD_lim {xs : List D} (h : SpansD xs) (n : Nat) : limL n xs = true := by
  rw [limL_mem]
  exact fun d hd => by
    rcases h d hd with rfl | ⟨_, rfl, _⟩ | ⟨_, _, _, _, rfl, _⟩ <;> simp
theorem spanD_nr' {d : D} (h : SpanD d) : d.isRef = false := by
  rcases h with rfl | ⟨_, rfl, _⟩ | ⟨_, _, _, _, rfl, _⟩ <;> rfl
theorem spans_sp (S : Sto) (i : Nat) (p : Int × Int) (most : Nat) (hi : i < S.length) (h0 : 0 < most) (h1 : most ≤ 1000) :
    Gives (m__law_spans [.ref i, .int most] (S.set i (wellOb p))) S i fun d => ∃ xs, d = .lst xs ∧ SpansD xs ∧ xs.length ≤ 30 * most := by
  have a1 := dr_lo (dw p 50) (many := (most : Int)) (by omega)
  have a2 := dr_hi (dw p 50) (many := (most : Int)) (by omega)
  have b1 := dr_lo p (many := 50) (by omega)
  have hm : ((List.range (dr (dw p 50) most).toNat).map fun (i : Nat) => D.int (0 + (i : Int))).length ≤ most := by simp; omega
  generalize hds : ((List.range (dr (dw p 50) most).toNat).map fun (i : Nat) => D.int (0 + (i : Int))) = ds at hm
  have lp := loop_goesN (fun k e S' => WellAt S' S i ∧ ∃ xs near x y, e = [some (.ref i), some (.int most), some (.lst xs), some (.int near), x, y] ∧ SpansD xs ∧ xs.length ≤ 30 * k)
    (g := gnM 4) (body := l__law_spans_0) (b := S.length) ds 0 (by
      rintro d hd k _ hk e S' ⟨⟨q, rfl⟩, xs, near, x, y, rfl, hxs, hlen⟩
      obtain ⟨s, q1, e1, hs⟩ := (span_sp S i q near hi).inv
      have b1 := dr_lo q1 (many := 30) (by omega)
      have b2 := dr_hi q1 (many := 30) (by omega)
      obtain ⟨m, hm1, q2, e2⟩ := one_inv (r := _) (p := dw q1 30) (xs := [.int 1, .int 1, .int 2, .int 7, .int 8, .int 9, .int 16, .int 17, .int (1 + dr q1 30)]) rfl hi (by simp) (by simp) (by simp)
      obtain ⟨m, rfl, hm2⟩ : ∃ z : Nat, m = .int z ∧ z ≤ 30 := by
        simp only [List.mem_cons, List.not_mem_nil, or_false] at hm1
        rcases hm1 with rfl | rfl | rfl | rfl | rfl | rfl | rfl | rfl | rfl
        · exact ⟨1, rfl, by omega⟩
        · exact ⟨1, rfl, by omega⟩
        · exact ⟨2, rfl, by omega⟩
        · exact ⟨7, rfl, by omega⟩
        · exact ⟨8, rfl, by omega⟩
        · exact ⟨9, rfl, by omega⟩
        · exact ⟨16, rfl, by omega⟩
        · exact ⟨17, rfl, by omega⟩
        · exact ⟨(1 + dr q1 30).toNat, by congr 1; omega, by omega⟩
      have c1 : m ≤ 16777216 := by omega
      have c2 : xs.length + m ≤ 16777216 := by omega
      have c3 : (m : Int) < 9223372036854775808 := by omega
      have c4 : -9223372036854775808 ≤ (m : Int) := by omega
      have hxs' : SpansD (xs ++ List.replicate m s) := by
        intro z hz
        rcases List.mem_append.mp hz with hz | hz
        · exact hxs z hz
        · rw [List.eq_of_mem_replicate hz]; exact hs
      rcases hs with rfl | ⟨l, rfl, h1, h2⟩ | ⟨l, k', c, b, rfl, h1, h2, h3, h4⟩
      · simp [l__law_spans_0, hi, e1, l__law_spans_0_1, l__law_spans_0_2, e2, c1, c2, c3, c4]
        exact ⟨hxs', by omega⟩
      · simp [l__law_spans_0, hi, e1, l__law_spans_0_1, l__law_spans_0_2, e2, c1, c2, c3, c4]
        exact ⟨hxs', by omega⟩
      · simp [l__law_spans_0, hi, e1, l__law_spans_0_1, l__law_spans_0_2, e2, c1, c2, c3, c4]
        exact ⟨hxs', by omega⟩) [some (.ref i), some (.int most), some (.lst []), some (.int (1 + dr p 50)), none, none] (S.set i (wellOb (dw (dw p 50) most))) ⟨⟨_, rfl⟩, [], _, _, _, rfl, by simp [SpansD], by simp⟩
  obtain ⟨e, S', w1, ⟨q, rfl⟩, xs, near, x, y, rfl, hxs, hlen⟩ := lp.inv
  have hmost : 0 < (most : Int) ∧ (most : Int) < 18446744073709551616 := by omega
  have hr : rngI 0 (dr (dw p 50) most) = some ds := by rw [rngI_0 _ (by omega) (by omega), hds]
  unfold m__law_spans
  rw [fnM_ap]
  simp [b__law_spans_0, b__law_spans_1, b__law_spans_2, b__law_spans_3, hi, hmost, h0, hr, w1, spansD_lim hxs]
  exact ⟨hxs, by omega⟩
theorem line_app (S : Sto) (p : Int × Int) (l : Sto) (near : Int) : ∃ v q, m__law_line [.ref S.length, .int near] (S ++ wellOb p :: l) = .ok (.int v) [] (S ++ wellOb q :: l) ∧ 1 ≤ v ∧ v ≤ 2147483647 := by
  obtain ⟨d, q, h, v, rfl, hv⟩ := give_app (args := fun i => [.ref i, .int near]) (fun T i p hi => line_sp T i p near hi) S p l
  exact ⟨v, q, h, hv⟩
theorem spans_app (S : Sto) (p : Int × Int) (l : Sto) (most : Nat) (h0 : 0 < most) (h1 : most ≤ 1000) : ∃ xs q, m__law_spans [.ref S.length, .int most] (S ++ wellOb p :: l) = .ok (.lst xs) [] (S ++ wellOb q :: l) ∧ SpansD xs ∧ xs.length ≤ 30 * most := by
  obtain ⟨d, q, h, xs, rfl, hv⟩ := give_app (args := fun i => [.ref i, .int most]) (fun T i p hi => spans_sp T i p most hi h0 h1) S p l
  exact ⟨xs, q, h, hv⟩
/-! ### a well somewhere in the store, own things behind it -/
theorem give_in {m : SF} {args : List D} {P : D → Prop} {i : Nat} (h : ∀ (T : Sto) (p : Int × Int), i < T.length → Gives (m args (T.set i (wellOb p))) T i P) (S : Sto) (p : Int × Int) (l : Sto) (hi : i < S.length) :
    ∃ d q, m args (S.set i (wellOb p) ++ l) = .ok d [] (S.set i (wellOb q) ++ l) ∧ P d := by
  have e : ∀ a, S.set i a ++ l = (S ++ l).set i a := fun a => by rw [List.set_append_left _ _ hi]
  obtain ⟨d, q, h, hd⟩ := (h (S ++ l) p (by simp; omega)).inv
  rw [e]
  exact ⟨d, q, by rw [h, e], hd⟩
@[simp] theorem draw_in (S : Sto) (i : Nat) (p : Int × Int) (l : Sto) (many : Int) (hi : i < S.length) (h1 : 0 < many) (h2 : many < 18446744073709551616) :
    m__law_draw [.ref i, .int many] (S.set i (wellOb p) ++ l) = .ok (.int (dr p many)) [] (S.set i (wellOb (dw p many)) ++ l) := by
  have e : ∀ a, S.set i a ++ l = (S ++ l).set i a := fun a => by rw [List.set_append_left _ _ hi]
  rw [e, draw_set _ _ _ _ (by simp; omega) h1 h2, e]
theorem one_in {S : Sto} {i : Nat} {p : Int × Int} {l : Sto} {xs : List D} {r : R D} (hr : m__law_one [.ref i, .lst xs] (S.set i (wellOb p) ++ l) = r) (hi : i < S.length) (hn : 0 < xs.length) (hl : xs.length ≤ 16777216) (hlim : limL S.length xs = true) :
    ∃ x ∈ xs, ∃ q, r = .ok x [] (S.set i (wellOb q) ++ l) := by
  have e : ∀ a, S.set i a ++ l = (S ++ l).set i a := fun a => by rw [List.set_append_left _ _ hi]
  rw [e] at hr
  obtain ⟨x, hx, q, h⟩ := one_inv hr (by simp; omega) hn hl (by rw [limL_mem] at hlim ⊢; exact fun d hd => lim_mono (by simp) d (hlim d hd))
  exact ⟨x, hx, q, by rw [h, e]⟩
@[simp] theorem varO_inwell (i j : Nat) (p : Int × Int) (e : Env) (S : Sto) : varO i j (some (wellOb p)) e S = .ok (.ref j) e S := rfl
@[simp] theorem get_well (S : Sto) (i : Nat) (a : Ob) (l : Sto) (hi : i < S.length) : (S.set i a ++ l)[i]? = some a := by
  rw [List.getElem?_append_left (by simp; exact hi), List.getElem?_set_self hi]
end Mir.Sh
end

/-! ShLRead -/
section
set_option linter.all false
/-! ShLRead: the laws' own reader reads as the package does. -/
namespace Mir.Sh
open Mir
def badD (e : Int × String) : D := .tup [.str (cps "bad"), .int e.1, .str (cps e.2)]
def numD (r : Rd (Nat × Nat)) : D := match r with
  | .ok (n, k) => .tup [.str (cps "number"), .int n, .int k]
  | .error e => badD e
/-- ints from j on -/
def upto (j m : Nat) : List D := (List.range' j m).map fun (i : Nat) => .int (0 + (i : Int))
theorem upto_0 (m : Nat) : ((List.range m).map fun (i : Nat) => D.int (0 + (i : Int))) = upto 0 m := by
  unfold upto; rw [List.range_eq_range']
@[simp] theorem upto_nil (j : Nat) : upto j 0 = [] := rfl
theorem upto_s (j m : Nat) : upto j (m + 1) = .int (0 + (j : Int)) :: upto (j + 1) m := by
  unfold upto; rw [List.range'_succ]; rfl
theorem get_nums {bs : List Nat} {k b : Nat} (h : bs[k]? = some b) : (nums bs)[k]? = some (.int (b : Int)) := by
  unfold nums; rw [List.getElem?_map, h]; rfl
theorem idx_nums (S : Sto) {bs : List Nat} {k b : Nat} (h : bs[k]? = some b) : idxS S (.lst (nums bs)) (.int (k : Int)) = some (.int (b : Int)) := by
  have lt := (List.getElem?_eq_some_iff.mp h).1
  rw [idxS_ap, deref_lst, idxD_lst, ixD_nat _ _ (by simpa using lt)]
  exact get_nums h
theorem nat_loop (bs : List Nat) (at_ b : Nat) (S : Sto) : ∀ (m j f w : Nat) (x : Option D),
    match numO bs m f w (at_ + j) with
    | .error e => Ends (loopM (gnM 4) l__law_number_at_0 b (upto j m) [some (.lst (nums bs)), some (.int at_), some (.int f), some (.int w), x] S) (.ret (badD e)) fun _ S' => S' = S
    | .ok (some n, k) => Ends (loopM (gnM 4) l__law_number_at_0 b (upto j m) [some (.lst (nums bs)), some (.int at_), some (.int f), some (.int w), x] S) (.ret (.tup [.str (cps "number"), .int n, .int k])) fun _ S' => S' = S
    | .ok (none, k) => k = at_ + j + m ∧ Ends (loopM (gnM 4) l__law_number_at_0 b (upto j m) [some (.lst (nums bs)), some (.int at_), some (.int f), some (.int w), x] S) .nx fun e S' => (∃ y z u, e = [some (.lst (nums bs)), some (.int at_), y, z, u]) ∧ S' = S
  | 0, j, f, w, x => by
    rw [numO]
    exact ⟨rfl, by simp⟩
  | m + 1, j, f, w, x => by
    rw [numO, upto_s, loopM_cons]
    unfold nextB
    by_cases h : at_ + j < bs.length
    · have g := List.getElem?_eq_getElem h
      have ix := fun S => idx_nums S g
      simp at ix
      have h0 : ¬ (bs.length : Int) ≤ (at_ : Int) + j := by omega
      rw [g]
      generalize bs[at_ + j] = c at ix
      dsimp only
      by_cases h1 : 128 ≤ c
      · rw [if_pos h1]
        simp [l__law_number_at_0, h0, l__law_number_at_0_1, ix, h1, badD]
      · rw [if_neg h1]
        dsimp only
        have mo : mulOk ((c : Int) % 64) (w : Int) = true := mulOk_mod _ _ _ (by omega) (by omega)
        by_cases h2 : c < 64
        · rw [if_pos h2]
          have h2' : (c : Int) % 64 = c := by omega
          rw [h2'] at mo
          simp [l__law_number_at_0, h0, l__law_number_at_0_1, ix, h1, l__law_number_at_0_2, h2', mo, l__law_number_at_0_3, l__law_number_at_0_4, h2]
        · rw [if_neg h2]
          have ih := nat_loop bs at_ b S m (j + 1) (f + c % 64 * w) (w * 64) (some (.int (j : Int)))
          have e : at_ + (j + 1) = at_ + j + 1 := by omega
          rw [e] at ih
          have e2 : at_ + j + (m + 1) = at_ + j + 1 + m := by omega
          have key : ∀ {f' : Fl} {P : Env → Sto → Prop}, Ends (loopM (gnM 4) l__law_number_at_0 b (upto (j + 1) m) [some (.lst (nums bs)), some (.int at_), some (.int (f + c % 64 * w : Nat)), some (.int (w * 64 : Nat)), some (.int (j : Int))] S) f' P → Ends ((gnM 4 b (.int (0 + (j : Int))) [some (.lst (nums bs)), some (.int at_), some (.int f), some (.int w), x] S).bnd fun _ e S => (l__law_number_at_0 b e S).bnd fun f e S => loopR f (gnM 4) l__law_number_at_0 b (upto (j + 1) m) e S) f' P := fun h => by
            simp at h
            simp [l__law_number_at_0, h0, l__law_number_at_0_1, ix, h1, l__law_number_at_0_2, mo, l__law_number_at_0_3, l__law_number_at_0_4, h2]
            exact h
          revert ih
          cases hn : numO bs m (f + c % 64 * w) (w * 64) (at_ + j + 1) with
          | error e => exact fun ih => key ih
          | ok p =>
            obtain ⟨o, k⟩ := p
            cases o with
            | some n => exact fun ih => key ih
            | none => exact fun ih => ⟨by rw [ih.1]; omega, key ih.2⟩
    · have g : bs[at_ + j]? = none := List.getElem?_eq_none (by omega)
      have h0 : (bs.length : Int) ≤ (at_ : Int) + j := by omega
      rw [g]
      simp [l__law_number_at_0, h0, badD]
theorem number_at_eq (bs : List Nat) (at_ : Nat) (S : Sto) : m__law_number_at [.lst (nums bs), .int at_] S = .ok (numD (number bs at_)) [] S := by
  have h := nat_loop bs at_ S.length S 8 0 0 1 none
  have hr : rngI 0 8 = some (upto 0 8) := rfl
  unfold m__law_number_at
  rw [fnM_ap]
  unfold number
  rw [Nat.add_zero] at h
  revert h
  cases numO bs 8 0 1 at_ with
  | error e =>
    intro h
    obtain ⟨e', S', w1, rfl⟩ := h.inv
    simp at w1
    simp [b__law_number_at_0, b__law_number_at_1, b__law_number_at_2, hr, w1, numD, badD]
  | ok p =>
    obtain ⟨o, k⟩ := p
    cases o with
    | some n =>
      intro h
      obtain ⟨e', S', w1, rfl⟩ := h.inv
      simp at w1
      simp [b__law_number_at_0, b__law_number_at_1, b__law_number_at_2, hr, w1, numD]
    | none =>
      intro h
      obtain ⟨rfl, h⟩ := h
      obtain ⟨e', S', w1, ⟨y, z, u, rfl⟩, rfl⟩ := h.inv
      simp at w1
      simp [b__law_number_at_0, b__law_number_at_1, b__law_number_at_2, b__law_number_at_3, hr, w1, numD, badD]
      omega
def numbersAt (bs : List Nat) : Nat → Nat → Rd (List Nat × Nat)
  | 0, k => .ok ([], k)
  | m + 1, k => match number bs k with
    | .error e => .error e
    | .ok (n, k') => match numbersAt bs m k' with
      | .error e => .error e
      | .ok (ns, k'') => .ok (n :: ns, k'')
def bytesAt (bs : List Nat) : Nat → Nat → Rd (List Nat × Nat)
  | 0, k => .ok ([], k)
  | m + 1, k => match nextB bs k with
    | .error e => .error e
    | .ok (n, k') => match bytesAt bs m k' with
      | .error e => .error e
      | .ok (ns, k'') => .ok (n :: ns, k'')
def numsD (r : Rd (List Nat × Nat)) : D := match r with
  | .ok (ns, k) => .tup [.str (cps "numbers"), .lst (nums ns), .int k]
  | .error e => badD e
theorem bad_eq (S : Sto) (s : String) (h : (cps s).all (fun c => decide (c < 1114112)) = true) : eqS S (.str (cps s)) (.str (cps "bad")) = some (decide (cps s = cps "bad")) := by
  rw [dat_cmp (n := 0) (m := 0) (by simpa using h) (by simp [cps]) (by omega) (by omega)]
  congr 1
  by_cases e : cps s = cps "bad"
  · rw [e]; simp
  · rw [(same_false _ _).mpr (by simpa using e)]; simp [e]
theorem bad_bad (S : Sto) : eqS S (.str (cps "bad")) (.str (cps "bad")) = some true := by rw [bad_eq S "bad" (by simp [cps])]; simp
theorem bad_number (S : Sto) : eqS S (.str (cps "number")) (.str (cps "bad")) = some false := by rw [bad_eq S "number" (by simp [cps])]; simp [cps]
theorem bad_numbers (S : Sto) : eqS S (.str (cps "numbers")) (.str (cps "bad")) = some false := by rw [bad_eq S "numbers" (by simp [cps])]; simp [cps]
theorem nats_loop (bs : List Nat) (S : Sto) (b : Nat) (hb : b = S.length) (a2 : Option D) : ∀ (ds : List D) (k : Nat) (acc : List Nat) (x y : Option D), acc.length + ds.length ≤ 100 →
    match numbersAt bs ds.length k with
    | .error e => Ends (loopM (gnM 4) l__law_numbers_at_0 b ds [some (.lst (nums bs)), some (.int k), a2, some (.ref S.length), x, y] (S ++ [.lst true (nums acc)])) (.ret (badD e)) fun _ S' => ∃ o, S' = S ++ [o]
    | .ok (ns, k') => Ends (loopM (gnM 4) l__law_numbers_at_0 b ds [some (.lst (nums bs)), some (.int k), a2, some (.ref S.length), x, y] (S ++ [.lst true (nums acc)])) .nx fun e S' => (∃ y z, e = [some (.lst (nums bs)), some (.int k'), a2, some (.ref S.length), y, z]) ∧ S' = S ++ [.lst true (nums (acc ++ ns))] := by
  subst hb
  intro ds
  induction ds with
  | nil => intro k acc x y _; simp [numbersAt]
  | cons d ds ih =>
    intro k acc x y hl
    simp only [List.length_cons] at hl
    rw [List.length_cons, numbersAt, loopM_cons]
    have na := fun S => number_at_eq bs k S
    cases hn : number bs k with
    | error e =>
      rw [hn] at na
      simp [l__law_numbers_at_0, na, numD, l__law_numbers_at_0_1, badD, bad_bad]
    | ok p =>
      obtain ⟨n, k1⟩ := p
      rw [hn] at na
      dsimp only
      have ih := ih k1 (acc ++ [n]) (some d) (some (.tup [.str (cps "number"), .int n, .int k1])) (by simp; omega)
      have c : acc.length < 16777216 := by omega
      have key : ∀ {f' : Fl} {P : Env → Sto → Prop}, Ends (loopM (gnM 4) l__law_numbers_at_0 S.length ds [some (.lst (nums bs)), some (.int k1), a2, some (.ref S.length), some d, some (.tup [.str (cps "number"), .int n, .int k1])] (S ++ [.lst true (nums (acc ++ [n]))])) f' P → Ends ((gnM 4 S.length d [some (.lst (nums bs)), some (.int k), a2, some (.ref S.length), x, y] (S ++ [.lst true (nums acc)])).bnd fun _ e S_1 => (l__law_numbers_at_0 S.length e S_1).bnd fun f e S_1 => loopR f (gnM 4) l__law_numbers_at_0 S.length ds e S_1) f' P := fun h => by
        simp at h
        simp [l__law_numbers_at_0, na, numD, l__law_numbers_at_0_1, bad_number, l__law_numbers_at_0_2, l__law_numbers_at_0_3, c]
        exact h
      revert ih
      cases numbersAt bs ds.length k1 with
      | error e => exact fun ih => key ih
      | ok q =>
        obtain ⟨ns, k2⟩ := q
        intro ih
        dsimp only at ih ⊢
        have e : acc ++ [n] ++ ns = acc ++ n :: ns := by simp
        rw [e] at ih
        exact key ih
theorem numbers_at_eq (bs : List Nat) (at_ many : Nat) (hm : many ≤ 100) (S : Sto) : m__law_numbers_at [.lst (nums bs), .int at_, .int many] S = .ok (numsD (numbersAt bs many at_)) [] S := by
  have hr : rngI 0 (many : Int) = some (upto 0 many) := by rw [rngI_0 _ (by omega) (by omega), Int.toNat_natCast, upto_0]
  have hl : (upto 0 many).length = many := by simp [upto]
  have h := nats_loop bs S S.length rfl (some (.int many)) (upto 0 many) at_ [] none none (by simp [hl]; exact hm)
  rw [hl] at h
  unfold m__law_numbers_at
  rw [fnM_ap]
  revert h
  cases numbersAt bs many at_ with
  | error e =>
    intro h
    obtain ⟨e', S', w1, o, rfl⟩ := h.inv
    simp at w1
    simp [b__law_numbers_at_0, b__law_numbers_at_1, hr, w1, numsD, badD]
  | ok p =>
    obtain ⟨ns, k⟩ := p
    intro h
    obtain ⟨e', S', w1, ⟨y, z, rfl⟩, rfl⟩ := h.inv
    simp at w1
    simp [b__law_numbers_at_0, b__law_numbers_at_1, b__law_numbers_at_2, hr, w1, numsD]
theorem bytes_loop (bs : List Nat) (S : Sto) (b at_ : Nat) (a2 : Option D) : ∀ (m j : Nat) (x : Option D),
    match bytesAt bs m (at_ + j) with
    | .error e => Ends (loopM (gnM 3) l__law_bytes_at_0 b (upto j m) [some (.lst (nums bs)), some (.int at_), a2, x] S) (.ret (badD e)) fun _ S' => S' = S
    | .ok (ns, k') => Ends (loopM (gnM 3) l__law_bytes_at_0 b (upto j m) [some (.lst (nums bs)), some (.int at_), a2, x] S) .nx fun e S' => (∃ y, e = [some (.lst (nums bs)), some (.int at_), a2, y]) ∧ S' = S
  | 0, j, x => by simp [bytesAt]
  | m + 1, j, x => by
    rw [bytesAt, upto_s, loopM_cons]
    unfold nextB
    by_cases h : at_ + j < bs.length
    · have g := List.getElem?_eq_getElem h
      have ix := fun S => idx_nums S g
      simp at ix
      have h0 : ¬ (bs.length : Int) ≤ (at_ : Int) + j := by omega
      rw [g]
      generalize bs[at_ + j] = c at ix
      dsimp only
      by_cases h1 : 128 ≤ c
      · rw [if_pos h1]
        simp [l__law_bytes_at_0, h0, l__law_bytes_at_0_1, ix, h1, badD]
      · rw [if_neg h1]
        dsimp only
        have ih := bytes_loop bs S b at_ a2 m (j + 1) (some (.int (j : Int)))
        have e : at_ + (j + 1) = at_ + j + 1 := by omega
        rw [e] at ih
        revert ih
        cases bytesAt bs m (at_ + j + 1) with
        | error e =>
          intro ih
          simp [l__law_bytes_at_0, h0, l__law_bytes_at_0_1, ix, h1]
          exact ih
        | ok q =>
          intro ih
          simp [l__law_bytes_at_0, h0, l__law_bytes_at_0_1, ix, h1]
          simp at ih
          exact ih
    · have g : bs[at_ + j]? = none := List.getElem?_eq_none (by omega)
      have h0 : (bs.length : Int) ≤ (at_ : Int) + j := by omega
      rw [g]
      simp [l__law_bytes_at_0, h0, badD]
theorem bytesAt_ok {bs : List Nat} : ∀ {m k k' : Nat} {ns : List Nat}, bytesAt bs m k = .ok (ns, k') → k' = k + m ∧ (0 < m → k' ≤ bs.length) ∧ (bs.drop k).take m = ns
  | 0, k, k', ns, h => by cases h; simp
  | m + 1, k, k', ns, h => by
    rw [bytesAt] at h
    split at h
    · cases h
    · rename_i n k1 e
      have hk := nextB_ok e
      split at h
      · cases h
      · rename_i ns' k2 e2
        cases h
        obtain ⟨i1, i2, i3⟩ := bytesAt_ok e2
        have lt : k < bs.length := by omega
        have g : bs[k] = n := by
          unfold nextB at e
          rw [List.getElem?_eq_getElem lt] at e
          dsimp only at e
          split at e <;> cases e
          rfl
        refine ⟨by omega, fun _ => ?_, ?_⟩
        · rcases Nat.eq_zero_or_pos m with hm | hm
          · omega
          · exact i2 hm
        · rw [List.drop_eq_getElem_cons lt, List.take_succ_cons, g, ← i3, hk.1]
theorem cutL_mid {α : Type} (xs : List α) (a m : Nat) (h : a + m ≤ xs.length) : cutL xs (some (a : Int)) (some ((a : Int) + (m : Int))) = (xs.drop a).take m := by
  unfold cutL cutI
  have h1 : ¬ (a : Int) < 0 := by omega
  have h2 : ¬ (a : Int) + m < 0 := by omega
  simp only [h1, h2, if_false, Int.toNat_natCast]
  have e1 : min a xs.length = a := by omega
  have e2 : min ((a : Int) + (m : Int)).toNat xs.length = a + m := by omega
  rw [e1, e2]
  congr 1; omega
theorem bytes_at_eq (bs : List Nat) (at_ many : Nat) (h0 : 0 < many) (hm : many ≤ 100) (S : Sto) : m__law_bytes_at [.lst (nums bs), .int at_, .int many] S = .ok (numsD (bytesAt bs many at_)) [] S := by
  have hr : rngI 0 (many : Int) = some (upto 0 many) := by rw [rngI_0 _ (by omega) (by omega), Int.toNat_natCast, upto_0]
  have h := bytes_loop bs S S.length at_ (some (.int many)) many 0 none
  rw [Nat.add_zero] at h
  unfold m__law_bytes_at
  rw [fnM_ap]
  cases hb : bytesAt bs many at_ with
  | error e =>
    rw [hb] at h
    obtain ⟨e', S', w1, rfl⟩ := h.inv
    simp [b__law_bytes_at_0, hr, w1, numsD, badD]
  | ok p =>
    obtain ⟨ns, k⟩ := p
    rw [hb] at h
    obtain ⟨e', S', w1, ⟨y, rfl⟩, rfl⟩ := h.inv
    obtain ⟨rfl, k2, k3⟩ := bytesAt_ok hb
    have c := cutL_mid (nums bs) at_ many (by simpa using k2 h0)
    have c2 : ((nums bs).drop at_).take many = nums ns := by
      rw [← k3]; unfold nums; rw [List.map_take, List.map_drop]
    simp [b__law_bytes_at_0, b__law_bytes_at_1, hr, w1, numsD, c, c2]
/-- the further numbers of an entry -/
def further (bs : List Nat) (form k : Nat) : Rd (List Nat × Nat) :=
  if form < 10 then bytesAt bs 1 k else if form < 13 then bytesAt bs 2 k else if form = 13 then numbersAt bs 1 k else numbersAt bs 4 k
/-- the span that they tell -/
def toldBy (form : Nat) (ns : List Nat) (line : Int) : Raw :=
  if form < 10 then (line, line, .int (8 * form + ns.getD 0 0 / 16 : Nat), .int (8 * form + ns.getD 0 0 / 16 + ns.getD 0 0 % 16 : Nat))
  else if form < 13 then (line + ((form : Int) - 10), line + ((form : Int) - 10), .int (ns.getD 0 0 : Nat), .int (ns.getD 1 0 : Nat))
  else if form = 13 then (line + unfoldN (ns.getD 0 0), line + unfoldN (ns.getD 0 0), .non, .non)
  else (line + unfoldN (ns.getD 0 0), line + unfoldN (ns.getD 0 0) + (ns.getD 1 0 : Nat), mcol (ns.getD 2 0), mcol (ns.getD 3 0))
theorem rawSpan_further (bs : List Nat) (form : Nat) (line : Int) (k : Nat) : rawSpan bs form line k = match further bs form k with
    | .error e => .error e
    | .ok (ns, k') => .ok (toldBy form ns line, k') := by
  unfold rawSpan further toldBy
  by_cases h1 : form < 10
  · simp only [h1, if_true, bytesAt]
    cases nextB bs k with
    | error e => rfl
    | ok p => rfl
  · simp only [h1, if_false]
    by_cases h2 : form < 13
    · simp only [h2, if_true, bytesAt]
      cases nextB bs k with
      | error e => rfl
      | ok p =>
        obtain ⟨c, k1⟩ := p
        dsimp only
        cases nextB bs k1 with
        | error e => rfl
        | ok p => rfl
    · simp only [h2, if_false]
      by_cases h3 : form = 13
      · simp only [h3, if_true, numbersAt, signed]
        cases number bs k with
        | error e => rfl
        | ok p => rfl
      · simp only [h3, if_false, numbersAt, signed]
        cases number bs k with
        | error e => rfl
        | ok p =>
          obtain ⟨n1, k1⟩ := p
          dsimp only
          cases number bs k1 with
          | error e => rfl
          | ok p =>
            obtain ⟨n2, k2⟩ := p
            dsimp only
            cases number bs k2 with
            | error e => rfl
            | ok p =>
              obtain ⟨n3, k3⟩ := p
              dsimp only
              cases number bs k3 with
              | error e => rfl
              | ok p => rfl
theorem numbersAt_len {bs : List Nat} : ∀ {m k k' : Nat} {ns : List Nat}, numbersAt bs m k = .ok (ns, k') → ns.length = m
  | 0, k, k', ns, h => by cases h; rfl
  | m + 1, k, k', ns, h => by
    rw [numbersAt] at h
    split at h
    · cases h
    · split at h
      · cases h
      · rename_i e
        cases h
        simp [numbersAt_len e]
theorem bytesAt_len {bs : List Nat} : ∀ {m k k' : Nat} {ns : List Nat}, bytesAt bs m k = .ok (ns, k') → ns.length = m
  | 0, k, k', ns, h => by cases h; rfl
  | m + 1, k, k', ns, h => by
    rw [bytesAt] at h
    split at h
    · cases h
    · split at h
      · cases h
      · rename_i e
        cases h
        simp [bytesAt_len e]
theorem further_len {bs : List Nat} {form k k' : Nat} {ns : List Nat} (h : further bs form k = .ok (ns, k')) : ns.length = if form < 10 then 1 else if form < 13 then 2 else if form = 13 then 1 else 4 := by
  unfold further at h
  by_cases h1 : form < 10
  · rw [if_pos h1] at h ⊢; exact bytesAt_len h
  · rw [if_neg h1] at h ⊢
    by_cases h2 : form < 13
    · rw [if_pos h2] at h ⊢; exact bytesAt_len h
    · rw [if_neg h2] at h ⊢
      by_cases h3 : form = 13
      · rw [if_pos h3] at h ⊢; exact numbersAt_len h
      · rw [if_neg h3] at h ⊢; exact numbersAt_len h
theorem unfold_even {n : Nat} (h : (n : Int) % 2 = 0) : unfoldN n = (n : Int) / 2 := by
  unfold unfoldN; rw [if_pos (by omega)]; omega
theorem unfold_odd {n : Nat} (h : ¬ (n : Int) % 2 = 0) : unfoldN n = 0 - (n : Int) / 2 := by
  unfold unfoldN; rw [if_neg (by omega)]; omega
theorem cols_comp (x0 a0 a1 a2 a3 a4 : Option D) (b : Nat) (S : Sto) (ns : List Nat) (hl : ns.length ≤ 100) :
    compL S.length [6] (ctN 6) yesT (ifE (cmpT eqS (rawM 6) (cM (.int 0))) (cM .non) (op2 subS (rawM 6) (cM (.int 1)))) b (nums ns) [x0, a0, a1, a2, a3, a4, none] (S ++ [.lst true []]) = .ok () [x0, a0, a1, a2, a3, a4, none] (S ++ [.lst true (ns.map mcol)]) := by
  have := compL_run (fun d => some (match d with | .int n => if n = 0 then .non else .int (n - 1) | _ => .non)) (vs := [6]) (g := ctN 6) (t := yesT) (x := ifE (cmpT eqS (rawM 6) (cM (.int 0))) (cM .non) (op2 subS (rawM 6) (cM (.int 1)))) (b := b) (e := [x0, a0, a1, a2, a3, a4, none]) (S := S) (w := true) (nums ns) [] (by simp; omega) (by
    intro d hd acc
    obtain ⟨n, _, rfl⟩ := List.mem_map.mp hd
    by_cases h : n = 0
    · simp [h]
    · simp [h])
  rw [this]
  congr 3
  rw [List.nil_append]
  congr 1
  clear this hl
  induction ns with
  | nil => rfl
  | cons n r ih =>
    simp only [nums_cons, List.filterMap_cons, List.map_cons, ih]
    congr 1
    unfold mcol
    by_cases h : n = 0
    · simp [h]
    · simp [h]
theorem span_of_eq (form : Nat) (ns : List Nat) (line : Int) (hf : form < 15) (hn : ns.length = if form < 10 then 1 else if form < 13 then 2 else if form = 13 then 1 else 4) (S : Sto) : m__law_span_of [.int form, .lst (nums ns), .int line] S = .ok (rawD (toldBy form ns line)) [] S := by
  unfold m__law_span_of
  rw [fnM_ap]
  unfold toldBy
  by_cases h1 : form < 10
  · rw [if_pos h1] at hn
    obtain ⟨n, rfl⟩ := List.length_eq_one_iff.mp hn
    simp [b__law_span_of_0, h1, rawD]
  · rw [if_neg h1] at hn
    by_cases h2 : form < 13
    · rw [if_pos h2] at hn
      match ns, hn with
      | [c, d], _ =>
        have u : line + (form : Int) - 10 = line + ((form : Int) - 10) := by omega
        simp [b__law_span_of_0, b__law_span_of_1, h1, h2, rawD, u]
    · rw [if_neg h2] at hn
      by_cases h3 : form = 13
      · subst h3
        rw [if_pos rfl] at hn
        obtain ⟨n, rfl⟩ := List.length_eq_one_iff.mp hn
        by_cases h4 : (n : Int) % 2 = 0
        · simp [b__law_span_of_0, b__law_span_of_1, b__law_span_of_2, b__law_span_of_3, rawD, h4, unfold_even h4]
        · simp [b__law_span_of_0, b__law_span_of_1, b__law_span_of_2, b__law_span_of_3, rawD, h4, unfold_odd h4]
      · rw [if_neg h3] at hn
        match ns, hn with
        | [n1, n2, n3, n4], _ =>
          have cc : cutL [D.int n1, D.int n2, D.int n3, D.int n4] (some 2) none = nums [n3, n4] := by
            have := cutL_from [D.int n1, D.int n2, D.int n3, D.int n4] 2
            simpa using this
          have comp := fun x0 a0 a1 a2 a3 a4 => cols_comp x0 a0 a1 a2 a3 a4 S.length S [n3, n4] (by simp)
          simp at comp cc
          by_cases h4 : (n1 : Int) % 2 = 0
          · simp [b__law_span_of_0, b__law_span_of_1, b__law_span_of_2, b__law_span_of_3, b__law_span_of_4, b__law_span_of_5, rawD, h1, h2, h3, h4, unfold_even h4, cc, comp, mcol_lim, mcol_nr]
          · simp [b__law_span_of_0, b__law_span_of_1, b__law_span_of_2, b__law_span_of_3, b__law_span_of_4, b__law_span_of_5, rawD, h1, h2, h3, h4, unfold_odd h4, cc, comp, mcol_lim, mcol_nr]
/-- none, or an int from 0 on -/
def ColD (d : D) : Prop := d = .non ∨ ∃ n : Nat, d = .int n
theorem mcol_col (n : Nat) : ColD (mcol n) := by
  cases n with
  | zero => exact .inl rfl
  | succ n => exact .inr ⟨n, by unfold mcol; rw [if_neg (by omega)]; congr 1; omega⟩
def wrongD (r : Rd Unit) : D := match r with
  | .ok _ => .non
  | .error e => .str (cps e.2)
theorem wrong_eq {l k : Int} {c b : D} (hc : ColD c) (hb : ColD b) (hlk : l ≤ k) (a : Nat) (S : Sto) : m__law_wrong [rawD (l, k, c, b)] S = .ok (wrongD (rawOk a (l, k, c, b))) [] S := by
  unfold m__law_wrong
  rw [fnM_ap]
  unfold rawOk most
  dsimp only
  by_cases h1 : 1 ≤ l
  · by_cases h2 : l ≤ 2147483647
    · by_cases h3 : 2147483647 < k
      · rw [if_pos (.inr h3)]
        rcases hc with rfl | ⟨c, rfl⟩ <;> rcases hb with rfl | ⟨b, rfl⟩ <;> simp [b__law_wrong_0, b__law_wrong_1, rawD, h1, h2, h3, wrongD]
      · rw [if_neg (by omega)]
        rcases hc with rfl | ⟨c, rfl⟩
        · rcases hb with rfl | ⟨b, rfl⟩
          · by_cases h4 : l = k
            · subst h4
              simp [b__law_wrong_0, b__law_wrong_1, b__law_wrong_2, b__law_wrong_3, b__law_wrong_4, rawD, h1, h2, h3, wrongD, ordB]
            · simp [b__law_wrong_0, b__law_wrong_1, b__law_wrong_2, rawD, h1, h2, h3, wrongD, ordB, h4]
          · simp [b__law_wrong_0, b__law_wrong_1, b__law_wrong_2, rawD, h1, h2, h3, wrongD, ordB]
        · rcases hb with rfl | ⟨b, rfl⟩
          · simp [b__law_wrong_0, b__law_wrong_1, b__law_wrong_2, rawD, h1, h2, h3, wrongD, ordB]
          · by_cases h5 : c ≤ 2147483647
            · by_cases h6 : b ≤ 2147483647
              · have h7 : ¬ (2147483647 : Int) < (if c < b then (b : Int) else c) := by split <;> omega
                by_cases h4 : l = k
                · subst h4
                  by_cases h8 : b < c
                  · have h9 : ¬ c ≤ b := by omega
                    simp [b__law_wrong_0, b__law_wrong_1, b__law_wrong_2, b__law_wrong_3, b__law_wrong_4, rawD, h1, h2, h3, wrongD, ordB, isInt, h5, h6, h7, h8, h9]
                  · have h9 : c ≤ b := by omega
                    simp [b__law_wrong_0, b__law_wrong_1, b__law_wrong_2, b__law_wrong_3, b__law_wrong_4, rawD, h1, h2, h3, wrongD, ordB, isInt, h5, h6, h7, h8, h9]
                · have h9 : l < k := by omega
                  simp [b__law_wrong_0, b__law_wrong_1, b__law_wrong_2, b__law_wrong_3, b__law_wrong_4, rawD, h1, h2, h3, wrongD, ordB, isInt, h5, h6, h7, h4, h9]
              · have h7 : (2147483647 : Int) < (if (c : Int) < (b : Int) then (b : Int) else c) := by split <;> omega
                simp at h7
                simp [b__law_wrong_0, b__law_wrong_1, b__law_wrong_2, b__law_wrong_3, rawD, h1, h2, h3, wrongD, ordB, isInt, h5, h6, h7]
            · have h7 : (2147483647 : Int) < (if (c : Int) < (b : Int) then (b : Int) else c) := by split <;> omega
              simp at h7
              simp [b__law_wrong_0, b__law_wrong_1, b__law_wrong_2, b__law_wrong_3, rawD, h1, h2, h3, wrongD, ordB, isInt, h5, h7]
    · rw [if_pos (.inl fun h => h2 h.2)]
      rcases hc with rfl | ⟨c, rfl⟩ <;> rcases hb with rfl | ⟨b, rfl⟩ <;> simp [b__law_wrong_0, b__law_wrong_1, rawD, h1, h2, wrongD]
  · rw [if_pos (.inl fun h => h1 h.1)]
    rcases hc with rfl | ⟨c, rfl⟩ <;> rcases hb with rfl | ⟨b, rfl⟩ <;> simp [b__law_wrong_0, b__law_wrong_1, rawD, h1, wrongD]
theorem told_col (form : Nat) (ns : List Nat) (line : Int) : ColD (toldBy form ns line).2.2.1 ∧ ColD (toldBy form ns line).2.2.2 ∧ (toldBy form ns line).1 ≤ (toldBy form ns line).2.1 := by
  unfold toldBy
  split
  · exact ⟨.inr ⟨_, rfl⟩, .inr ⟨_, rfl⟩, Int.le_refl _⟩
  · split
    · exact ⟨.inr ⟨_, rfl⟩, .inr ⟨_, rfl⟩, Int.le_refl _⟩
    · split
      · exact ⟨.inl rfl, .inl rfl, Int.le_refl _⟩
      · exact ⟨mcol_col _, mcol_col _, by dsimp only; omega⟩
def readD (r : Rd (List Ent)) : D := match r with
  | .ok es => .tup [.str (cps "spans"), .lst (spansOf es)]
  | .error e => badD e
def isWhy (s : String) : Prop := s = "torn" ∨ s = "inside" ∨ s = "number" ∨ s = "start" ∨ s = "line" ∨ s = "columns"
theorem bad_badD (S : Sto) (e : Int × String) : idxS S (badD e) (.int 0) = some (.str (cps "bad")) := by
  unfold badD; simp
theorem str_not (s : String) : isNoneD (.str (cps s)) = false := rfl
theorem further_step (bs : List Nat) (f a : Nat) (hf : f < 15) (b : Nat) (S : Sto) (a1 a2 y z : Option D) :
    l__law_read_0_2 b [some (.lst (nums bs)), a1, a2, some (.int a), some (.int f), y, z] S = l__law_read_0_3 b [some (.lst (nums bs)), a1, a2, some (.int a), some (.int f), y, some (numsD (further bs f (a + 1)))] S := by
  unfold further
  by_cases q1 : f < 10
  · rw [if_pos q1]
    have na := fun S => bytes_at_eq bs (a + 1) 1 (by omega) (by omega) S
    have q2 : ¬ 12 < f := by omega
    have q3 : ¬ 9 < f := by omega
    simp at na
    simp [l__law_read_0_2, q2, q3, na, intS]
  · rw [if_neg q1]
    by_cases q4 : f < 13
    · rw [if_pos q4]
      have na := fun S => bytes_at_eq bs (a + 1) 2 (by omega) (by omega) S
      have q2 : ¬ 12 < f := by omega
      have q3 : 9 < f := by omega
      simp at na
      simp [l__law_read_0_2, q2, q3, na, intS]
    · rw [if_neg q4]
      have q2 : 12 < f := by omega
      by_cases q5 : f = 13
      · rw [if_pos q5]
        subst q5
        have na := fun S => numbers_at_eq bs (a + 1) 1 (by omega) S
        simp at na
        simp [l__law_read_0_2, na]
      · rw [if_neg q5]
        have q6 : f = 14 := by omega
        subst q6
        have na := fun S => numbers_at_eq bs (a + 1) 4 (by omega) S
        simp at na
        simp [l__law_read_0_2, na]
/-- one turn of the laws' reader -/
theorem lread_turn (bs : List Nat) (hl : bs.length ≤ 1000000) (b : Nat) (S : Sto) (a : Nat) (ha : a < bs.length) (line : Int) (sp : List D) (hsp : sp.length ≤ 8 * a) (x y z : Option D) :
    match readEntry bs a line with
    | .error e => Ends (l__law_read_0 b [some (.lst (nums bs)), some (.int line), some (.lst sp), some (.int a), x, y, z] S) (.ret (badD e)) fun _ S' => S' = S
    | .ok e => Ends (l__law_read_0 b [some (.lst (nums bs)), some (.int line), some (.lst sp), some (.int a), x, y, z] S) .nx fun e' S' => (∃ x y z, e' = [some (.lst (nums bs)), some (.int (spanLine e.span line)), some (.lst (sp ++ List.replicate e.steps e.span)), some (.int e.stop), x, y, z]) ∧ S' = S := by
  have g := List.getElem?_eq_getElem ha
  have ix := fun S => idx_nums S g
  have gd : bs.getD a 0 = bs[a] := by simp [ha]
  unfold readEntry
  rw [gd]
  generalize bs[a] = c at ix
  dsimp only
  by_cases h1 : c < 128
  · rw [if_pos h1]
    simp [l__law_read_0, ix, h1, badD]
  · rw [if_neg h1]
    have k1 : c % 8 + 1 ≤ 16777216 := by omega
    have k2 : sp.length + (c % 8 + 1) ≤ 16777216 := by omega
    have k3 : (c : Int) % 8 + 1 < 9223372036854775808 := by omega
    have k4 : -9223372036854775808 ≤ (c : Int) % 8 + 1 := by omega
    have k5 : ((c : Int) % 8 + 1).toNat = c % 8 + 1 := by omega
    obtain ⟨f, hf⟩ : ∃ f, f = c / 8 % 16 := ⟨_, rfl⟩
    have hfi : (c : Int) / 8 % 16 = f := by omega
    have hf16 : f < 16 := by omega
    rw [← hf]
    by_cases h2 : f = 15
    · subst h2
      rw [if_pos rfl]
      have na := fun S => numbers_at_eq bs (a + 1) 0 (by omega) S
      simp [numbersAt, numsD] at na
      simp at hfi
      simp [l__law_read_0, ix, h1, l__law_read_0_1, hfi, l__law_read_0_2, na, l__law_read_0_3, bad_numbers, l__law_read_0_4, l__law_read_0_5, l__law_read_0_6, l__law_read_0_7, k1, k2, k3, k4, k5, spanLine]
    · rw [if_neg h2, rawSpan_further]
      have hf15 : f < 15 := by omega
      have step := further_step bs f a hf15 b S (some (.int line)) (some (.lst sp)) y z
      cases hfu : further bs f (a + 1) with
      | error e =>
        rw [hfu] at step
        simp [l__law_read_0, ix, h1, l__law_read_0_1, hfi, step, l__law_read_0_3, numsD, badD, bad_bad]
      | ok p =>
        obtain ⟨ns, k⟩ := p
        rw [hfu] at step
        have so := fun S => span_of_eq f ns line hf15 (further_len hfu) S
        obtain ⟨tc1, tc2, tc3⟩ := told_col f ns line
        dsimp only
        generalize htb : toldBy f ns line = r at so tc1 tc2 tc3
        obtain ⟨l, u, cc, bb⟩ := r
        have we := fun S => wrong_eq tc1 tc2 tc3 a S
        simp only [rawD] at we so
        have cn : cc.isRef = false ∧ bb.isRef = false ∧ cc.lim 0 = true ∧ bb.lim 0 = true := by
          rcases tc1 with rfl | ⟨_, rfl⟩ <;> rcases tc2 with rfl | ⟨_, rfl⟩ <;> simp
        cases hro : rawOk a (l, u, cc, bb) with
        | error e =>
          rw [hro] at we
          have ha2 : e.1 = a := by
            unfold rawOk at hro
            split at hro
            · cases hro; rfl
            · split at hro <;> cases hro; rfl
          simp [l__law_read_0, ix, h1, l__law_read_0_1, hfi, step, l__law_read_0_3, numsD, bad_numbers, l__law_read_0_4, l__law_read_0_5, hf15, so, we, wrongD, badD, ha2]
        | ok v =>
          rw [hro] at we
          simp [l__law_read_0, ix, h1, l__law_read_0_1, hfi, step, l__law_read_0_3, numsD, bad_numbers, l__law_read_0_4, l__law_read_0_5, hf15, so, we, wrongD, l__law_read_0_6, l__law_read_0_7, k1, k2, k3, k4, k5, spanLine, rawD]
theorem lread_loop (bs : List Nat) (hl : bs.length ≤ 1000000) (b : Nat) (S : Sto) : ∀ (n a : Nat) (line : Int) (sp : List D) (x y z : Option D), bs.length - a ≤ n → sp.length ≤ 8 * a →
    match readFrom bs n a line with
    | .error e => Ends (whileM (cmpT ltS (rawM 3) (fnA lenS (consA (rawM 0) nilA))) l__law_read_0 b [some (.lst (nums bs)), some (.int line), some (.lst sp), some (.int a), x, y, z] S) (.ret (badD e)) fun _ S' => S' = S
    | .ok es => Ends (whileM (cmpT ltS (rawM 3) (fnA lenS (consA (rawM 0) nilA))) l__law_read_0 b [some (.lst (nums bs)), some (.int line), some (.lst sp), some (.int a), x, y, z] S) .nx fun e' S' => (∃ l c x y z, e' = [some (.lst (nums bs)), l, some (.lst (sp ++ spansOf es)), c, x, y, z]) ∧ S' = S
  | 0, a, line, sp, x, y, z, h1, h2 => by
    rw [readFrom, whileM_ap]
    have h0 : ¬ a < bs.length := by omega
    simp [h0]
  | n + 1, a, line, sp, x, y, z, h1, h2 => by
    rw [readFrom, whileM_ap]
    by_cases h0 : a < bs.length
    · rw [if_pos h0]
      have tu := lread_turn bs hl b S a h0 line sp h2 x y z
      cases hr : readEntry bs a line with
      | error e =>
        rw [hr] at tu
        obtain ⟨e', S', w1, hS⟩ := tu.inv
        rw [hS] at w1
        simp [h0, w1]
      | ok e =>
        rw [hr] at tu
        obtain ⟨e', S', w1, ⟨x', y', z', rfl⟩, hS⟩ := tu.inv
        rw [hS] at w1
        obtain ⟨k1, k2, k3, k4, k5, k6⟩ := readEntry_ok h0 hr
        have ih := lread_loop bs hl b S n e.stop (spanLine e.span line) (sp ++ List.replicate e.steps e.span) x' y' z' (by omega) (by simp; omega)
        dsimp only
        revert ih
        cases readFrom bs n e.stop (spanLine e.span line) with
        | error er =>
          intro ih
          simp [h0, w1]
          exact ih
        | ok es =>
          intro ih
          simp [h0, w1]
          simpa using ih
    · rw [if_neg h0]
      simp [h0]
theorem lread_eq (bs : List Nat) (hl : bs.length ≤ 1000000) (line : Int) (S : Sto) : m__law_read [.lst (nums bs), .int line] S = .ok (readD (readAll bs line)) [] S := by
  have h := lread_loop bs hl S.length S bs.length 0 line [] none none none (by omega) (by simp)
  unfold m__law_read
  rw [fnM_ap]
  unfold readAll
  cases hr : readFrom bs bs.length 0 line with
  | error e =>
    rw [hr] at h
    obtain ⟨e', S', w1, hS⟩ := h.inv
    rw [hS] at w1
    simp at w1
    simp [b__law_read_0, b__law_read_1, b__law_read_2, w1, readD, badD]
  | ok es =>
    rw [hr] at h
    obtain ⟨e', S', w1, ⟨l, c, x, y, z, rfl⟩, hS⟩ := h.inv
    rw [hS] at w1
    simp at w1
    have hL : limL S.length (spansOf es) = true := limL_spans (spansOf_span (readFrom_all hr).2) _
    simp [b__law_read_0, b__law_read_1, b__law_read_2, b__law_read_3, w1, readD, hL]
end Mir.Sh
end

/-! ShTabs -/
section
set_option linter.all false
/-! ShTabs: shortest, rebased. -/
namespace Mir.Sh
open Mir
theorem shortest_eq {es : List Ent} (h : EntsOk es) (hn : (spansOf es).length ≤ 40000) (bs : List Nat) {line : Int} (hl : LineOk line) (S : Sto) : m_shortest [tabD bs line es] S = .ok (ofD (spansOf es) line) [] S := by
  have sp := fun S => Table_spans_eq h bs line S
  have t := fun S => Table_of_eq S (.inl (rfl : D.lst (spansOf es) = .lst (spansOf es))) (spansOf_span h) hn hl
  have ok := ofEnts_ok (spansOf_span h) hl
  unfold m_shortest
  rw [fnM_ap]
  have lim : (ofD (spansOf es) line).lim S.length = true := tab_lim ok _
  simp [b_shortest_0, sp, t, lim]
@[simp] theorem isRef_of (xs : List D) (line : Int) : (ofD xs line).isRef = false := id rfl
end Mir.Sh
end

/-! ShMov -/
section
set_option linter.all false
/-! ShMov: moved, over an edit of the source; == of tables. -/
namespace Mir.Sh
open Mir
def mv (line removed by_ : Int) (d : D) : D := match d with
  | .tup [.int l, .int k, c, b] => if 0 < removed ∧ l < line + removed ∧ line ≤ k then .non else .tup [.int (if line + removed ≤ l then l + by_ else l), .int (if line + removed ≤ k then k + by_ else k), c, b]
  | _ => .non
def topOk (d : D) : Prop := match d with
  | .tup (.int l :: .int k :: _) => l ≤ 2147483647 ∧ k ≤ 2147483647
  | _ => True
theorem moved_span_eq {d : D} (h : SpanD d) (line removed by_ : Int) (S : Sto) : m_moved_span [d, .int line, .int removed, .int by_] S = .ok (mv line removed by_ d) [] S := by
  have go : ∀ (l k : Int) (c b : D), c.isRef = false → b.isRef = false → c.lim S.length = true → b.lim S.length = true → m_moved_span [.tup [.int l, .int k, c, b], .int line, .int removed, .int by_] S = .ok (mv line removed by_ (.tup [.int l, .int k, c, b])) [] S := by
    intro l k c b n1 n2 l1 l2
    unfold m_moved_span
    rw [fnM_ap]
    unfold mv
    by_cases c1 : 0 < removed ∧ l < line + removed ∧ line ≤ k
    · simp [b_moved_span_0, c1]
    · simp only [if_neg c1]
      have c1' : 0 < removed → l < line + removed → ¬ line ≤ k := fun a b c => c1 ⟨a, b, c⟩
      have r0 : b_moved_span_0 S.length [some (.tup [.int l, .int k, c, b]), some (.int line), some (.int removed), some (.int by_), none, none, none, none] S = .ok .nx [some (.tup [.int l, .int k, c, b]), some (.int line), some (.int removed), some (.int by_), none, none, none, none] S := by
        by_cases a1 : 0 < removed
        · by_cases a2 : l < line + removed
          · have a3 := c1' a1 a2
            simp [b_moved_span_0, a1, a2, a3]
          · simp [b_moved_span_0, a1, a2]
        · simp [b_moved_span_0, a1]
      by_cases c2 : line + removed ≤ l <;> by_cases c3 : line + removed ≤ k <;> simp [r0, b_moved_span_1, b_moved_span_2, b_moved_span_3, b_moved_span_4, c2, c3, n1, n2, l1, l2]
  rcases h with rfl | ⟨l, rfl, g⟩ | ⟨l, k, c, b, rfl, g⟩
  · unfold m_moved_span
    rw [fnM_ap]
    simp [b_moved_span_0, mv]
  · exact go _ _ _ _ rfl rfl (by simp) (by simp)
  · exact go _ _ _ _ rfl rfl (by simp) (by simp)
theorem mv_span {d : D} (h : SpanD d) {line removed added : Int} (h1 : 1 ≤ line) (h2 : 0 ≤ removed) (h3 : 0 ≤ added) (ht : topOk (mv line removed (added - removed) d)) : SpanD (mv line removed (added - removed) d) := by
  rcases h with rfl | ⟨l, rfl, g1, g2⟩ | ⟨l, k, c, b, rfl, ⟨g1, g2, g3⟩, g4, g5, g6⟩
  · exact .inl rfl
  · unfold mv at ht ⊢
    by_cases c1 : 0 < removed ∧ l < line + removed ∧ line ≤ l
    · simp only [if_pos c1]; exact .inl rfl
    · simp only [if_neg c1] at ht ⊢
      simp only [topOk] at ht
      refine .inr (.inl ⟨_, rfl, ?_, ht.1⟩)
      split <;> omega
  · unfold mv at ht ⊢
    by_cases c1 : 0 < removed ∧ l < line + removed ∧ line ≤ k
    · simp only [if_pos c1]; exact .inl rfl
    · simp only [if_neg c1] at ht ⊢
      simp only [topOk] at ht
      refine .inr (.inr ⟨_, _, _, _, rfl, ⟨?_, ?_, ht.2⟩, g4, g5, ?_⟩)
      · split <;> omega
      · split <;> split <;> omega
      · split <;> split <;> omega
theorem want_lines_loop (b : Nat) (v : Option D) (S : Sto) : ∀ (ds : List D) (x y : Option D), (∀ d ∈ ds, SpanD d) →
    Ends (loopM (gnM 1) l_want_lines_1 b ds [v, x, y] S) .nx fun e S' => e.length = 3 ∧ S' = S
  | [], x, y, _ => by simp
  | d :: ds, x, y, h => by
    rw [loopM_cons]
    have hd := h d List.mem_cons_self
    have ih := fun y => want_lines_loop b v S ds (some d) y fun x hx => h x (List.mem_cons_of_mem _ hx)
    rcases hd with rfl | ⟨l, rfl, g⟩ | ⟨l, k, c, b', rfl, g⟩
    · simp [l_want_lines_1]
      exact ih _
    · have c1 : ¬ (2147483647 : Int) < l := by omega
      have t2 : cutL [D.int l, .int l, .non, .non] none (some 2) = [.int l, .int l] := rfl
      simp [l_want_lines_1, t2, l_want_lines_0, c1, loopM_cons]
      exact ih _
    · have c1 : ¬ (2147483647 : Int) < l := by omega
      have c2 : ¬ (2147483647 : Int) < k := by omega
      have t2 : cutL [D.int l, .int k, .int c, .int b'] none (some 2) = [.int l, .int k] := rfl
      simp [l_want_lines_1, t2, l_want_lines_0, c1, c2, loopM_cons]
      exact ih _
theorem want_lines_ok {ds : List D} (h : ∀ d ∈ ds, SpanD d) (S : Sto) : m_want_lines [.lst ds] S = .ok .non [] S := by
  obtain ⟨e, S', w1, w2, w3⟩ := (want_lines_loop S.length (some (.lst ds)) S ds none none h).inv
  subst w3
  unfold m_want_lines
  rw [fnM_ap]
  simp [b_want_lines_0, w1]
/-- the spans behind an edit -/
def mvs (line removed added : Int) (xs : List D) : List D := xs.map (mv line removed (added - removed))
theorem mvs_len (line removed added : Int) (xs : List D) : (mvs line removed added xs).length = xs.length := List.length_map _
theorem mvs_span {xs : List D} (h : ∀ x ∈ xs, SpanD x) {line removed added : Int} (h1 : 1 ≤ line) (h2 : 0 ≤ removed) (h3 : 0 ≤ added) (ht : ∀ x ∈ mvs line removed added xs, topOk x) : ∀ x ∈ mvs line removed added xs, SpanD x := by
  intro x hx
  have t := ht x hx
  obtain ⟨d, hd, rfl⟩ := List.mem_map.mp hx
  exact mv_span (h d hd) h1 h2 h3 t
theorem moved_comp {xs : List D} (h : ∀ x ∈ xs, SpanD x) (hn : xs.length ≤ 40000) (line removed by_ : Int) (b : Nat) (a0 a3 a4 a5 : Option D) (T : Sto) (r a : Int) (hby : by_ = a - r) (hr : removed = r) (ha : a3 = some (.int a)) :
    compL T.length [6] (ctN 6) yesT (callM m_moved_span 4 (consA (varM 6) (consA (varM 1) (consA (varM 2) (consA (op2 subS (rawM 3) (rawM 2)) nilA))))) b xs [a0, some (.int line), some (.int r), a3, a4, a5, none] (T ++ [.lst true []]) =
      .ok () [a0, some (.int line), some (.int r), a3, a4, a5, none] (T ++ [.lst true (xs.map (mv line removed by_))]) := by
  subst hby hr ha
  have := compL_run (fun d => some (mv line removed (a - removed) d)) (vs := [6]) (g := ctN 6) (t := yesT) (x := callM m_moved_span 4 (consA (varM 6) (consA (varM 1) (consA (varM 2) (consA (op2 subS (rawM 3) (rawM 2)) nilA))))) (b := b) (e := [a0, some (.int line), some (.int removed), some (.int a), a4, a5, none]) (S := T) (w := true) xs [] (by simp; omega) (by
    intro d hd acc
    have nr := spanD_nr (h d hd)
    have e := fun S => moved_span_eq (h d hd) line removed (a - removed) S
    simp [nr, e])
  rw [this]
  congr 4
  rw [List.nil_append]
  clear this h hn
  induction xs with
  | nil => rfl
  | cons x xs ih => simp [ih]
theorem moved_eq {es : List Ent} (hes : EntsOk es) (hn : (spansOf es).length ≤ 40000) (bs : List Nat) {line0 : Int} (hl0 : LineOk line0) {line removed added : Int} (hl : LineOk line) (h2 : 0 ≤ removed ∧ removed ≤ 2147483647) (h3 : 0 ≤ added ∧ added ≤ 2147483647)
    (ht : ∀ x ∈ mvs line removed added (spansOf es), topOk x) (S : Sto) : m_moved [tabD bs line0 es, .int line, .int removed, .int added] S = .ok (ofD (mvs line removed added (spansOf es)) line0) [] S := by
  have sp := fun S => Table_spans_eq hes bs line0 S
  have sps := spansOf_span hes
  have ms := mvs_span sps hl.1 h2.1 h3.1 ht
  have wl := fun S => want_line_eq (d := .int line) rfl (by simp) S
  have i1 : isInt 1 2147483647 (.int line) = true := by simp [isInt, hl.1, hl.2]
  simp only [i1, if_true] at wl
  have i2 := fun S => is_integer_eq (d := .int removed) rfl 0 2147483647 S
  have i3 := fun S => is_integer_eq (d := .int added) rfl 0 2147483647 S
  have j2 : isInt 0 2147483647 (.int removed) = true := by simp [isInt, h2.1, h2.2]
  have j3 : isInt 0 2147483647 (.int added) = true := by simp [isInt, h3.1, h3.2]
  rw [j2] at i2
  rw [j3] at i3
  have cm := moved_comp sps hn line removed (added - removed) S.length (some (tabD bs line0 es)) (some (.int added)) (some (.int added)) none S removed added rfl rfl rfl
  have wls := fun S => want_lines_ok ms S
  have of := fun S => Table_of_eq S (.inl (rfl : D.lst (mvs line removed added (spansOf es)) = _)) ms (by rw [mvs_len]; exact hn) hl0
  have lim : (ofD (mvs line removed added (spansOf es)) line0).lim S.length = true := tab_lim (ofEnts_ok ms hl0) _
  unfold mvs at *
  generalize (spansOf es).map (mv line removed (added - removed)) = ys at *
  unfold m_moved
  rw [fnM_ap]
  simp [b_moved_0, wl, b_moved_1, l_moved_0, i2, i3, b_moved_2, sp, cm, b_moved_3, wls, b_moved_4, of, lim, loopM_cons]
theorem Table_eq_eq (b1 b2 : List Nat) (l1 l2 : Int) (e1 e2 : List Ent) (h : EntsOk e1) (h' : EntsOk e2) (S : Sto) : m_Table___eq__ [tabD b1 l1 e1, tabD b2 l2 e2] S = .ok (.bl (same (.lst (spansOf e1)) (.lst (spansOf e2)))) [] S := by
  have d1 := spans_dat (spansOf_span h)
  have d2 := spans_dat (spansOf_span h')
  have eq := dat_cmp d1 d2 (by omega) (by omega)
  unfold Cmp at eq
  unfold m_Table___eq__
  rw [fnM_ap]
  simp [b_Table___eq___0, isi_tyC (classOf_tab _ _ _ _), eq]
/-- a comprehension that draws from the well -/
theorem compL_well (P : D → Prop) {vs : List Nat} {g : CT} {t : ST} {x : SE} {b : Nat} {e : Env} (S l : Sto) {w : Bool} : ∀ (ds acc : List D) (q : Int × Int), acc.length + ds.length ≤ 16777216 →
    (∀ d ∈ ds, ∀ q acc, ∃ y q', P y ∧ compT vs t x b (g d e) (S ++ wellOb q :: (l ++ [.lst w acc])) = .ok (some y) e (S ++ wellOb q' :: (l ++ [.lst w acc]))) →
    ∃ ys q', (∀ y ∈ ys, P y) ∧ ys.length = ds.length ∧ compL (S.length + (l.length + 1)) vs g t x b ds e (S ++ wellOb q :: (l ++ [.lst w acc])) = .ok () e (S ++ wellOb q' :: (l ++ [.lst w (acc ++ ys)]))
  | [], acc, q, _, _ => ⟨[], q, by simp, rfl, by rw [compL]; simp⟩
  | d :: ds, acc, q, hl, ht => by
    obtain ⟨y, q1, hy, e1⟩ := ht d List.mem_cons_self q acc
    obtain ⟨ys, q2, h1, h2, h3⟩ := compL_well P S l (vs := vs) (g := g) (t := t) (x := x) (b := b) (e := e) (w := w) ds (acc ++ [y]) q1 (by simp at hl ⊢; omega) (fun d hd => ht d (List.mem_cons_of_mem _ hd))
    refine ⟨y :: ys, q2, fun z hz => (List.mem_cons.mp hz).elim (fun h => h ▸ hy) (h1 z), by simp [h2], ?_⟩
    have hn : acc.length < line := by simp at hl ⊢; omega
    have a1 : ∀ (o : Ob), (S ++ wellOb q1 :: (l ++ [o]))[S.length + (l.length + 1)]? = some o := fun o => by
      have := app_at (S ++ wellOb q1 :: l) o []
      simpa using this
    have a2 : ∀ (o o' : Ob), (S ++ wellOb q1 :: (l ++ [o])).set (S.length + (l.length + 1)) o' = S ++ wellOb q1 :: (l ++ [o']) := fun o o' => by
      have := app_set (S ++ wellOb q1 :: l) o o' []
      simpa using this
    rw [compL_cons e1]
    simp only [compK, a1, a2, hn, if_true]
    rw [h3]
    simp
def Low (n : Int) (d : D) : Prop := match d with
  | .tup (.int l :: .int k :: _) => l ≤ n ∧ k ≤ n
  | _ => True
theorem mv_low {d : D} (h : SpanD d) {n line removed added : Int} (h1 : Low n d) (h2 : 0 ≤ removed) (h3 : 0 ≤ added) : Low (n + added) (mv line removed (added - removed) d) := by
  have go : ∀ (l k : Int) (c b : D), l ≤ n → k ≤ n → Low (n + added) (mv line removed (added - removed) (.tup [.int l, .int k, c, b])) := by
    intro l k c b g1 g2
    simp only [mv]
    split
    · trivial
    · simp only [Low]
      constructor <;> split <;> omega
  rcases h with rfl | ⟨l, rfl, _⟩ | ⟨l, k, c, b, rfl, _⟩
  · trivial
  · exact go _ _ _ _ h1.1 h1.2
  · exact go _ _ _ _ h1.1 h1.2
theorem low_top {n : Int} {d : D} (h : Low n d) (hn : n ≤ 2147483647) : topOk d := by
  unfold Low at h
  unfold topOk
  split
  · exact ⟨by have := h.1; omega, by have := h.2; omega⟩
  · trivial
theorem mvs_low {xs : List D} (h : ∀ x ∈ xs, SpanD x) {n line removed added : Int} (h1 : ∀ x ∈ xs, Low n x) (h2 : 0 ≤ removed) (h3 : 0 ≤ added) : ∀ x ∈ mvs line removed added xs, Low (n + added) x := by
  intro x hx
  obtain ⟨d, hd, rfl⟩ := List.mem_map.mp hx
  exact mv_low (h d hd) (h1 d hd) h2 h3
/-- moved, of a table that Table.of has written -/
theorem moved_of {xs : List D} (h : ∀ x ∈ xs, SpanD x) (hn : xs.length ≤ 40000) {line0 : Int} (hl0 : LineOk line0) {line removed added : Int} (hl : LineOk line) (h2 : 0 ≤ removed ∧ removed ≤ 2147483647) (h3 : 0 ≤ added ∧ added ≤ 2147483647)
    (ht : ∀ x ∈ mvs line removed added xs, topOk x) (S : Sto) : m_moved [ofD xs line0, .int line, .int removed, .int added] S = .ok (ofD (mvs line removed added xs) line0) [] S := by
  have so := (readAll_of h hl0).2
  have := moved_eq (ofEnts_ok h hl0) (by rw [so]; exact hn) (writeSpans xs line0) hl0 hl h2 h3 (by rw [so]; exact ht) S
  rw [so] at this
  exact this
/-- the same, with all that is kept -/
theorem moved_low {xs : List D} (h : ∀ x ∈ xs, SpanD x) (hn : xs.length ≤ 40000) {n line0 : Int} (hw : ∀ x ∈ xs, Low n x) (hl0 : LineOk line0) {line removed added : Int} (hl : LineOk line) (h2 : 0 ≤ removed ∧ removed ≤ 2147483647) (h3 : 0 ≤ added ∧ n + added ≤ 2147483647) (hn0 : 0 ≤ n) :
    (∀ S, m_moved [ofD xs line0, .int line, .int removed, .int added] S = .ok (ofD (mvs line removed added xs) line0) [] S) ∧ (∀ x ∈ mvs line removed added xs, SpanD x) ∧ (∀ x ∈ mvs line removed added xs, Low (n + added) x) ∧ (mvs line removed added xs).length ≤ 40000 := by
  have lw := mvs_low h (line := line) hw h2.1 h3.1
  have tp := fun x hx => low_top (lw x hx) h3.2
  exact ⟨fun S => moved_of h hn hl0 hl h2 ⟨h3.1, by omega⟩ tp S, mvs_span h hl.1 h2.1 h3.1 tp, lw, by rw [mvs_len]; exact hn⟩
theorem ofD_spans {xs : List D} (h : ∀ x ∈ xs, SpanD x) {line : Int} (hl : LineOk line) (S : Sto) : m_Table_spans [ofD xs line] S = .ok (.lst xs) [] S := by
  have := Table_spans_eq (ofEnts_ok h hl) (writeSpans xs line) line S
  rwa [(readAll_of h hl).2] at this
theorem ofD_class {xs : List D} (line : Int) (S : Sto) : ∃ fs, classOf S (ofD xs line) = some ("Table", fs) := ⟨_, rfl⟩
theorem ofD_eq {xs ys : List D} (h : ∀ x ∈ xs, SpanD x) (h' : ∀ x ∈ ys, SpanD x) {l1 l2 : Int} (hl1 : LineOk l1) (hl2 : LineOk l2) (S : Sto) : m_Table___eq__ [ofD xs l1, ofD ys l2] S = .ok (.bl (same (.lst xs) (.lst ys))) [] S := by
  have := Table_eq_eq (writeSpans xs l1) (writeSpans ys l2) l1 l2 _ _ (ofEnts_ok h hl1) (ofEnts_ok h' hl2) S
  rwa [(readAll_of h hl1).2, (readAll_of h' hl2).2] at this
theorem ofD_eqR {xs ys : List D} (h : ∀ x ∈ xs, SpanD x) (h' : ∀ x ∈ ys, SpanD x) {l1 l2 : Int} (hl1 : LineOk l1) (hl2 : LineOk l2) (neg : Bool) (e : Env) (S : Sto) : eqR neg "Table" m_Table___eq__ (ofD xs l1) (ofD ys l2) e S = .ok (if neg then !same (.lst xs) (.lst ys) else same (.lst xs) (.lst ys)) e S := by
  rw [eqR_own (f1 := _) (f2 := _) rfl rfl, ofD_eq h h' hl1 hl2]
  rfl
@[simp] theorem classOf_of (S : Sto) (xs : List D) (line : Int) : classOf S (ofD xs line) = some ("Table", [("held_data", .byt (writeSpans xs line)), ("held_line", .int line), ("read", .lst ((ofEnts xs line).map entD)), ("held_spans", .lst (spansOf (ofEnts xs line)))]) := id rfl
@[simp] theorem data_of (xs : List D) (line : Int) (S : Sto) : m_Table_data [ofD xs line] S = .ok (.byt (writeSpans xs line)) [] S := Table_data_eq _ _ _ S
@[simp] theorem first_of (xs : List D) (line : Int) (S : Sto) : m_Table_first_line [ofD xs line] S = .ok (.int line) [] S := Table_first_line_eq _ _ _ S
theorem steps_of {xs : List D} (h : ∀ x ∈ xs, SpanD x) {line : Int} (hl : LineOk line) (S : Sto) : m_Table_step_count [ofD xs line] S = .ok (.int xs.length) [] S := by
  have := Table_step_count_eq (writeSpans xs line) line (ofEnts xs line) S
  rwa [(readAll_of h hl).2] at this
theorem filterMap_map {f : D → D} (xs : List D) : xs.filterMap (fun d => some (f d)) = xs.map f := by
  induction xs with
  | nil => rfl
  | cons x xs ih => simp [ih]
theorem nums_fold (bs : List Nat) : bs.map (fun (c : Nat) => D.int (c : Int)) = nums bs := rfl
end Mir.Sh
end

/-! ShLoose -/
section
set_option linter.all false
/-! ShLoose: numbers with leading zero groups, entries in any form. -/
namespace Mir.Sh
open Mir
theorem loopK (b : Nat) : l__law_groups_K_0 = l__law_groups_0 := rfl
theorem law_groups_K (n : Nat) (S : Sto) (h : (groups n).length ≤ 16777216) : ∃ o, m__law_groups_K [.int n] S = .ok (.ref (S.length + 1)) [] (S ++ [o, .lst true (nums (groups n))]) := by
  obtain ⟨k, acc', e1, e2⟩ := law_groups_loop S.length S (Nat.le_refl _) n [] (by simpa using h)
  have hl := congrArg List.length e1
  simp at hl
  have h1 : acc'.length + 1 ≤ 16777216 := by omega
  simp at e2
  refine ⟨.lst true (nums acc'), ?_⟩
  unfold m__law_groups_K
  rw [fnM_ap]
  simp at e1
  rw [← loopK 0] at e2
  simp [b__law_groups_K_0, b__law_groups_K_1, b__law_groups_K_2, e2, h1, ← e1]
theorem enc_snoc : ∀ (ds : List Nat), ds ≠ [] → ∃ init l, enc ds = init ++ [l] ∧ ∀ e, enc (ds ++ [e]) = init ++ [l + 64, e]
  | [], h => absurd rfl h
  | [d], _ => ⟨[], d, rfl, fun e => rfl⟩
  | d :: d' :: r, _ => by
    obtain ⟨init, l, h1, h2⟩ := enc_snoc (d' :: r) (by simp)
    refine ⟨(d + 64) :: init, l, by rw [enc, h1]; rfl, fun e => ?_⟩
    have := h2 e
    simp only [List.cons_append] at this ⊢
    rw [enc, this]
theorem pad_loop (S : Sto) (i : Nat) (w o : Ob) (hi : i < S.length) (b : Nat) (hb : b ≤ S.length) (a0 a1 : Option D) : ∀ (ds : List D) (fs : List Nat) (x : Option D), fs ≠ [] → fs.length + ds.length ≤ 100 →
    Ends (loopM (gnM 3) l__law_padded_0 b ds [a0, a1, some (.ref (S.length + 1)), x] (S.set i w ++ [o, .lst true (nums (enc fs))])) .nx
      fun e S' => (∃ x, e = [a0, a1, some (.ref (S.length + 1)), x]) ∧ S' = S.set i w ++ [o, .lst true (nums (enc (fs ++ List.replicate ds.length 0)))] := by
  intro ds
  induction ds with
  | nil => intro fs x _ _; simp
  | cons d ds ih =>
    intro fs x hf hl
    simp only [List.length_cons] at hl
    obtain ⟨init, l, e1, e2⟩ := enc_snoc fs hf
    have hin : init.length + 1 = fs.length := by
      have := congrArg List.length e1
      simp at this; omega
    have := ih (fs ++ [0]) (some d) (by simp) (by simp; omega)
    rw [e2] at this
    have er : fs ++ [0] ++ List.replicate ds.length 0 = fs ++ List.replicate (d :: ds).length 0 := by
      rw [List.length_cons, List.replicate_succ]; simp
    rw [er] at this
    rw [loopM_cons, e1]
    have c : init.length + 1 < 16777216 := by omega
    have hb1 : b ≤ S.length + 1 := by omega
    simp at this
    simp [l__law_padded_0, l__law_padded_0_1, hi, c, hb1]
    exact this
theorem padded_sp (S : Sto) (i : Nat) (p : Int × Int) (n : Nat) (hi : i < S.length) (hn : n < 64 ^ 7) :
    Gives (m__law_padded [.ref i, .int n] (S.set i (wellOb p))) S i fun d => ∃ bs, d = .lst (nums bs) ∧ NumB n bs := by
  have gl := groups_len 6 n hn
  obtain ⟨o, g⟩ := law_groups_K n (S.set i (wellOb p)) (by omega)
  have glp : 0 < (groups n).length := by rw [groups]; split <;> simp
  have dl : (digits n).length = (groups n).length := by rw [groups_enc, enc_len]
  obtain ⟨j, hj1, q, e1⟩ := one_in (r := _) (S := S) (i := i) (p := p) (l := [o, .lst true (nums (groups n))]) (xs := [.int 0, .int 0, .int 0, .int 1, .int (8 - (groups n).length)]) rfl hi (by simp) (by simp) (by simp)
  obtain ⟨j, rfl, hj2⟩ : ∃ k : Nat, j = .int k ∧ k + (groups n).length ≤ 8 := by
    simp only [List.mem_cons, List.not_mem_nil, or_false] at hj1
    rcases hj1 with rfl | rfl | rfl | rfl | rfl
    · exact ⟨0, rfl, by omega⟩
    · exact ⟨0, rfl, by omega⟩
    · exact ⟨0, rfl, by omega⟩
    · exact ⟨1, rfl, by omega⟩
    · exact ⟨8 - (groups n).length, by congr 1; omega, by omega⟩
  have hr : rngI 0 (j : Int) = some ((List.range j).map fun (i : Nat) => .int (0 + (i : Int))) := by
    rw [rngI_0 _ (by omega) (by omega)]; simp
  have hdl : ((List.range j).map fun (i : Nat) => D.int (0 + (i : Int))).length = j := by simp
  generalize ((List.range j).map fun (i : Nat) => D.int (0 + (i : Int))) = ds at hr hdl
  obtain ⟨e, S', w1, ⟨x, rfl⟩, rfl⟩ := (pad_loop S i (wellOb q) o hi S.length (Nat.le_refl _) (some (.ref i)) (some (.int n)) ds (digits n) none (digits_ne n) (by omega)).inv
  rw [hdl] at w1
  rw [← groups_enc] at w1
  have nb : NumB n (enc (digits n ++ List.replicate j 0)) := by
    refine ⟨_, rfl, by rw [val_app_zero, digits_val], by simp [digits_ne], ?_, by simp; omega⟩
    intro d hd
    rcases List.mem_append.mp hd with hd | hd
    · exact digits_lt n d hd
    · rw [List.eq_of_mem_replicate hd]; omega
  generalize enc (digits n ++ List.replicate j 0) = bs at w1 nb
  have c : (groups n).length ≤ 16777216 := by omega
  unfold m__law_padded
  rw [fnM_ap]
  simp at g e1
  simp [b__law_padded_0, hi, g, b__law_padded_1, e1, hr, w1, b__law_padded_2]
  exact ⟨bs, rfl, nb⟩
theorem law_col_non (S : Sto) : m__law_column_number [.non] S = .ok (.int 0) [] S := by
  unfold m__law_column_number
  rw [fnM_ap]
  simp [b__law_column_number_0]
theorem law_col_int (c : Nat) (S : Sto) : m__law_column_number [.int c] S = .ok (.int (c + 1)) [] S := by
  unfold m__law_column_number
  rw [fnM_ap]
  simp [b__law_column_number_0]
/-- a row of an entry -/
def RowOk (line : Int) (steps : Nat) (span : D) (d : D) : Prop := ∃ form bs, d = .lst (nums bs) ∧ EntB line steps span form bs ∧ bs ≠ [] ∧ bs.length ≤ 33 ∧ (∀ b ∈ bs, b < 256) ∧ (∀ b ∈ bs.tail, b < 128)
theorem padded_in (S : Sto) (i : Nat) (p : Int × Int) (l : Sto) (n : Nat) (hi : i < S.length) (hn : n < 64 ^ 7) :
    ∃ bs q, m__law_padded [.ref i, .int n] (S.set i (wellOb p) ++ l) = .ok (.lst (nums bs)) [] (S.set i (wellOb q) ++ l) ∧ NumB n bs := by
  obtain ⟨d, q, h, bs, rfl, hb⟩ := give_in (m := m__law_padded) (args := [.ref i, .int n]) (fun T p hi => padded_sp T i p n hi hn) S p l hi
  exact ⟨bs, q, h, hb⟩
theorem row_long {line z : Int} {steps m c b : Nat} {b1 b2 b3 b4 : List Nat} (h1 : 1 ≤ steps) (h2 : steps ≤ 8) (h : rawOk 0 (line + z, line + z + m, mcol c, mcol b) = .ok ()) (n1 : NumB (fold z) b1) (n2 : NumB m b2) (n3 : NumB c b3) (n4 : NumB b b4) :
    RowOk line steps (.tup [.int (line + z), .int (line + z + m), mcol c, mcol b]) (.lst (.int (239 + steps) :: (nums b1 ++ (nums b2 ++ (nums b3 ++ nums b4))))) := by
  refine ⟨14, (128 + 8 * 14 + steps - 1) :: (b1 ++ b2 ++ b3 ++ b4), ?_, entB_long h1 h2 h n1 n2 n3 n4, by simp, ?_, ?_, ?_⟩
  · have u : ((128 + 8 * 14 + steps - 1 : Nat) : Int) = 239 + steps := by omega
    simp only [nums_cons, u, nums_app, List.append_assoc]
  · have := n1.len; have := n2.len; have := n3.len; have := n4.len
    simp; omega
  · intro x hx
    rcases List.mem_cons.mp hx with rfl | hx
    · omega
    · simp only [List.mem_append] at hx
      rcases hx with ((hx | hx) | hx) | hx
      · have := n1.lt x hx; omega
      · have := n2.lt x hx; omega
      · have := n3.lt x hx; omega
      · have := n4.lt x hx; omega
  · intro x hx
    simp only [List.tail_cons, List.mem_append] at hx
    rcases hx with ((hx | hx) | hx) | hx
    · exact n1.lt x hx
    · exact n2.lt x hx
    · exact n3.lt x hx
    · exact n4.lt x hx
theorem row_bare {line z : Int} {steps : Nat} {b1 : List Nat} (h1 : 1 ≤ steps) (h2 : steps ≤ 8) (h : SpanD (.tup [.int (line + z), .int (line + z), .non, .non])) (n1 : NumB (fold z) b1) :
    RowOk line steps (.tup [.int (line + z), .int (line + z), .non, .non]) (.lst (.int (231 + steps) :: nums b1)) := by
  refine ⟨13, (128 + 8 * 13 + steps - 1) :: b1, ?_, entB_bare h1 h2 h n1, by simp, ?_, ?_, ?_⟩
  · have u : ((128 + 8 * 13 + steps - 1 : Nat) : Int) = 231 + steps := by omega
    simp only [nums_cons, u]
  · have := n1.len
    simp; omega
  · intro x hx
    rcases List.mem_cons.mp hx with rfl | hx
    · omega
    · have := n1.lt x hx; omega
  · exact n1.lt
theorem row_short {line : Int} {steps c b : Nat} (h1 : 1 ≤ steps) (h2 : steps ≤ 8) (h : SpanD (.tup [.int line, .int line, .int c, .int b])) (hc : c < 80) (hb : b < c + 16) (hcb : c ≤ b) :
    RowOk line steps (.tup [.int line, .int line, .int c, .int b]) (.lst [.int (128 + (c : Int) / 8 * 8 + steps - 1), .int ((c : Int) % 8 * 16 + b - c)]) := by
  refine ⟨c / 8, _, ?_, entB_short h1 h2 h hc hb hcb, by simp, by simp, ?_, ?_⟩
  · have u1 : ((128 + 8 * (c / 8) + steps - 1 : Nat) : Int) = 128 + (c : Int) / 8 * 8 + steps - 1 := by omega
    have u2 : ((c % 8 * 16 + (b - c) : Nat) : Int) = (c : Int) % 8 * 16 + b - c := by omega
    simp only [nums_cons, u1, u2, nums_nil]
  · intro x hx
    simp at hx; omega
  · intro x hx
    simp at hx; omega
theorem row_line {line : Int} {steps f c b : Nat} (h1 : 1 ≤ steps) (h2 : steps ≤ 8) (h : SpanD (.tup [.int (line + f), .int (line + f), .int c, .int b])) (hf : f < 3) (hc : c ≤ b) (hb : b < 128) :
    RowOk line steps (.tup [.int (line + f), .int (line + f), .int c, .int b]) (.lst [.int (208 + 8 * (f : Int) + steps - 1), .int c, .int b]) := by
  refine ⟨10 + f, _, ?_, entB_line h1 h2 h hf hc hb, by simp, by simp, ?_, ?_⟩
  · have u1 : ((128 + 8 * (10 + f) + steps - 1 : Nat) : Int) = 208 + 8 * (f : Int) + steps - 1 := by omega
    simp only [nums_cons, u1, nums_nil]
  · intro x hx
    simp at hx; omega
  · intro x hx
    simp at hx; omega
theorem mcol_0 : mcol 0 = .non := rfl
theorem mcol_s (n : Nat) : mcol (n + 1) = .int n := by
  unfold mcol
  rw [if_neg (by omega)]
  congr 1; omega
def shortOk (line z : Int) (m c b : Nat) : Prop := m = 0 ∧ z = 0 ∧ c < 80 ∧ (b : Int) - c < 16
def lineOk (z : Int) (m b : Nat) : Prop := m = 0 ∧ 0 ≤ z ∧ z < 3 ∧ b < 128
open Classical in
theorem step7 (S T : Sto) (hT : T.length = S.length) (line z : Int) (steps m c b : Nat) (a0 a1 a4 : Option D) (xs : List D) (hx : xs.length ≤ 100) :
    b__law_loose_entry_7 S.length [a0, a1, some (.int line), some (.int steps), a4, some (.ref S.length), some (.int (line + z)), some (.int (line + z + m)), some (.int c), some (.int b)] (T ++ [.lst true xs])
      = .ok .nx [a0, a1, some (.int line), some (.int steps), a4, some (.ref S.length), some (.int (line + z)), some (.int (line + z + m)), some (.int c), some (.int b)] (T ++ [.lst true (if shortOk line z m c b then xs ++ [.lst [.int (128 + (c : Int) / 8 * 8 + steps - 1), .int ((c : Int) % 8 * 16 + b - c)]] else xs)]) := by
  rw [← hT]
  have hn : xs.length < 16777216 := by omega
  by_cases h1 : m = 0
  · subst h1
    by_cases h2 : z = 0
    · subst h2
      by_cases h3 : c < 80
      · by_cases h4 : (b : Int) - c < 16
        · simp [b__law_loose_entry_7, shortOk, h3, h4, hn]
        · simp [b__law_loose_entry_7, shortOk, h3, h4]
      · simp [b__law_loose_entry_7, shortOk, h3]
    · have h2' : ¬ line + z = line := by omega
      simp [b__law_loose_entry_7, shortOk, h2, h2']
  · have h1' : ¬ line + z = line + z + (m : Int) := by omega
    simp [b__law_loose_entry_7, shortOk, h1, h1']
open Classical in
theorem step8 (S T : Sto) (hT : T.length = S.length) (line z : Int) (steps m c b : Nat) (a0 a1 a4 : Option D) (xs : List D) (hx : xs.length ≤ 100) :
    b__law_loose_entry_8 S.length [a0, a1, some (.int line), some (.int steps), a4, some (.ref S.length), some (.int (line + z)), some (.int (line + z + m)), some (.int c), some (.int b)] (T ++ [.lst true xs])
      = .ok .nx [a0, a1, some (.int line), some (.int steps), a4, some (.ref S.length), some (.int (line + z)), some (.int (line + z + m)), some (.int c), some (.int b)] (T ++ [.lst true (if lineOk z m b then xs ++ [.lst [.int (208 + 8 * z + steps - 1), .int c, .int b]] else xs)]) := by
  rw [← hT]
  have hn : xs.length < 16777216 := by omega
  have t0 : line + z - line = z := by omega
  by_cases h1 : m = 0
  · subst h1
    by_cases h2 : 0 ≤ z
    · by_cases h3 : z < 3
      · by_cases h4 : b < 128
        · simp [b__law_loose_entry_8, lineOk, h2, h3, h4, hn, t0]
        · simp [b__law_loose_entry_8, lineOk, h2, h3, h4, t0]
      · simp [b__law_loose_entry_8, lineOk, h2, h3, t0]
    · simp [b__law_loose_entry_8, lineOk, h2, t0]
  · have h1' : ¬ line + z = line + z + (m : Int) := by omega
    simp [b__law_loose_entry_8, lineOk, h1, h1']
theorem loose_entry_sp (S : Sto) (i : Nat) (p : Int × Int) {d : D} (h : SpanD d) {line : Int} (hl : LineOk line) {steps : Nat} (h1 : 1 ≤ steps) (h2 : steps ≤ 8) (hi : i < S.length) :
    Gives (m__law_loose_entry [.ref i, d, .int line, .int steps] (S.set i (wellOb p))) S i (RowOk line steps d) := by
  have hd := h
  unfold m__law_loose_entry
  rw [fnM_ap]
  have u5 : (240 : Int) + steps - 1 = 239 + steps := by omega
  rcases h with rfl | ⟨l, rfl, g1, g2⟩ | ⟨l, k, c, b, rfl, ⟨g1, g2, g3⟩, ⟨g4, g5⟩, ⟨g6, g7⟩, g8⟩
  · simp [b__law_loose_entry_0, hi]
    refine ⟨15, [128 + 8 * 15 + steps - 1], ?_, entB_none h1 h2, by simp, by simp, by simp; omega, by simp⟩
    simp; omega
  · obtain ⟨z, rfl⟩ : ∃ z : Int, l = line + z := ⟨l - line, by omega⟩
    have t0 : line + z - line = z := by omega
    have u6 : (232 : Int) + steps - 1 = 231 + steps := by omega
    have f := fold_lt (l := line + z) ⟨g1, g2⟩ hl
    rw [t0] at f
    obtain ⟨b1, q1, e1, n1⟩ := padded_in S i p [] (fold z) hi (by omega)
    obtain ⟨b2, q2, e2, n2⟩ := padded_in S i q1 [] 0 hi (by omega)
    obtain ⟨b3, q3, e3, n3⟩ := padded_in S i q2 [.lst true [.lst (.int (239 + steps) :: (nums b1 ++ nums b2))]] 0 hi (by omega)
    obtain ⟨b4, q4, e4, n4⟩ := padded_in S i q3 [.lst true [.lst (.int (239 + steps) :: (nums b1 ++ (nums b2 ++ nums b3)))]] 0 hi (by omega)
    have l1 := n1.len; have l2 := n2.len; have l3 := n3.len; have l4 := n4.len
    obtain ⟨x, hx, q5, e5⟩ := one_in (r := _) (S := S) (i := i) (p := q4) (l := [.dead]) (xs := [.lst (.int (239 + steps) :: (nums b1 ++ (nums b2 ++ (nums b3 ++ nums b4)))), .lst (.int (231 + steps) :: nums b1)]) rfl hi (by simp) (by simp) (by simp)
    have r1 := row_long (c := 0) (b := 0) (m := 0) h1 h2 (by simpa [mcol] using rawOk_two (a := 0) hd) n1 n2 n3 n4
    have r2 := row_bare h1 h2 hd n1
    simp only [mcol_0] at r1
    have hx' : RowOk line steps (.tup [.int (line + z), .int (line + z), .non, .non]) x := by
      simp only [List.mem_cons, List.not_mem_nil, or_false] at hx
      rcases hx with rfl | rfl
      · simpa using r1
      · exact r2
    have hxl : x.lim S.length = true ∧ x.isRef = false := by
      obtain ⟨_, bs, rfl, _⟩ := hx'
      exact ⟨by simp, rfl⟩
    have c1 : 1 + b1.length ≤ 16777216 := by omega
    have c2 : b1.length + 1 + b2.length ≤ 16777216 := by omega
    have c3 : b1.length + b2.length + 1 + b3.length ≤ 16777216 := by omega
    have c4 : b1.length + (b2.length + b3.length) + 1 + b4.length ≤ 16777216 := by omega
    simp at e1 e2 e3 e4
    simp [b__law_loose_entry_0, b__law_loose_entry_1, b__law_loose_entry_2, b__law_loose_entry_3, b__law_loose_entry_4, b__law_loose_entry_5, b__law_loose_entry_6, t0, law_folded_eq, e1, e2, hi, u5, u6, c1, c2, c3, c4, law_col_non, e3, e4, e5, hxl]
    exact hx'
  · obtain ⟨m, rfl⟩ : ∃ m : Nat, k = l + m := ⟨(k - l).toNat, by omega⟩
    obtain ⟨c, rfl⟩ : ∃ n : Nat, c = n := ⟨c.toNat, by omega⟩
    obtain ⟨b, rfl⟩ : ∃ n : Nat, b = n := ⟨b.toNat, by omega⟩
    obtain ⟨z, rfl⟩ : ∃ z : Int, l = line + z := ⟨l - line, by omega⟩
    have t0 : line + z - line = z := by omega
    have t4 : line + z + (m : Int) - (line + z) = m := by omega
    have f := fold_lt (l := line + z) ⟨g1, by omega⟩ hl
    rw [t0] at f
    obtain ⟨b1, q1, e1, n1⟩ := padded_in S i p [] (fold z) hi (by omega)
    obtain ⟨b2, q2, e2, n2⟩ := padded_in S i q1 [] m hi (by omega)
    obtain ⟨b3, q3, e3, n3⟩ := padded_in S i q2 [.lst true [.lst (.int (239 + steps) :: (nums b1 ++ nums b2))]] (c + 1) hi (by omega)
    obtain ⟨b4, q4, e4, n4⟩ := padded_in S i q3 [.lst true [.lst (.int (239 + steps) :: (nums b1 ++ (nums b2 ++ nums b3)))]] (b + 1) hi (by omega)
    have l1 := n1.len; have l2 := n2.len; have l3 := n3.len; have l4 := n4.len
    have r1 := row_long (line := line) (z := z) (c := c + 1) (b := b + 1) (m := m) h1 h2 (by rw [mcol_s, mcol_s]; exact rawOk_four hd) n1 n2 n3 n4
    rw [mcol_s, mcol_s] at r1
    have s7 := step7 S (S.set i (wellOb q4)) (by simp) line z steps m c b (some (.ref i)) (some (.tup [.int (line + z), .int (line + z + m), .int c, .int b])) (some (.lst (nums b1))) [.lst (.int (239 + steps) :: (nums b1 ++ (nums b2 ++ (nums b3 ++ nums b4))))] (by simp)
    have s8 := step8 S (S.set i (wellOb q4)) (by simp) line z steps m c b (some (.ref i)) (some (.tup [.int (line + z), .int (line + z + m), .int c, .int b])) (some (.lst (nums b1)))
    generalize hL : [D.lst (.int (239 + steps) :: (nums b1 ++ (nums b2 ++ (nums b3 ++ nums b4))))] = L0 at s7
    have hL0 : ∀ x ∈ L0, RowOk line steps (.tup [.int (line + z), .int (line + z + m), .int c, .int b]) x := by
      rw [← hL]; intro x hx; rw [List.mem_singleton.mp hx]; exact r1
    have hl0 : L0.length = 1 := by rw [← hL]; rfl
    obtain ⟨L1, hL1, hl1, s7⟩ : ∃ L1 : List D, (∀ x ∈ L1, RowOk line steps (.tup [.int (line + z), .int (line + z + m), .int c, .int b]) x) ∧ (0 < L1.length ∧ L1.length ≤ 2) ∧ _ = R.ok _ _ (S.set i (wellOb q4) ++ [.lst true L1]) := ⟨_, by
      intro x hx
      split at hx
      · rename_i hs
        obtain ⟨rfl, rfl, s3, s4⟩ := hs
        rcases List.mem_append.mp hx with hx | hx
        · exact hL0 x hx
        · rw [List.mem_singleton.mp hx]
          have := row_short (line := line) (c := c) (b := b) h1 h2 (by simpa using hd) s3 (by omega) (by omega)
          simpa using this
      · exact hL0 x hx, by split <;> simp [hl0], s7⟩
    have s8 := s8 L1 (by omega)
    obtain ⟨L2, hL2, hl2, s8⟩ : ∃ L2 : List D, (∀ x ∈ L2, RowOk line steps (.tup [.int (line + z), .int (line + z + m), .int c, .int b]) x) ∧ (0 < L2.length ∧ L2.length ≤ 3) ∧ _ = R.ok _ _ (S.set i (wellOb q4) ++ [.lst true L2]) := ⟨_, by
      intro x hx
      split at hx
      · rename_i hs
        obtain ⟨rfl, s2, s3, s4⟩ := hs
        obtain ⟨f', rfl⟩ : ∃ n : Nat, z = n := ⟨z.toNat, by omega⟩
        rcases List.mem_append.mp hx with hx | hx
        · exact hL1 x hx
        · rw [List.mem_singleton.mp hx]
          have := row_line (line := line) (f := f') (c := c) (b := b) h1 h2 (by simpa using hd) (by omega) (by omega) s4
          simpa using this
      · exact hL1 x hx, by
        split
        · simp; omega
        · omega, s8⟩
    have lim2 : limL S.length L2 = true := by
      rw [limL_mem]
      intro x hx
      obtain ⟨_, bs, rfl, _⟩ := hL2 x hx
      simp
    obtain ⟨x, hx, q5, e5⟩ := one_in (r := _) (S := S) (i := i) (p := q4) (l := [.dead]) (xs := L2) rfl hi hl2.1 (by omega) lim2
    have hx' := hL2 x hx
    have hxl : x.lim S.length = true ∧ x.isRef = false := by
      obtain ⟨_, bs, rfl, _⟩ := hx'
      exact ⟨by simp, rfl⟩
    have c1 : 1 + b1.length ≤ 16777216 := by omega
    have c2 : b1.length + 1 + b2.length ≤ 16777216 := by omega
    have c3 : b1.length + b2.length + 1 + b3.length ≤ 16777216 := by omega
    have c4 : b1.length + (b2.length + b3.length) + 1 + b4.length ≤ 16777216 := by omega
    simp at e1 e2 e3 e4
    simp [b__law_loose_entry_0, b__law_loose_entry_1, b__law_loose_entry_2, b__law_loose_entry_3, b__law_loose_entry_4, b__law_loose_entry_5, b__law_loose_entry_6, t0, t4, law_folded_eq, e1, e2, hi, u5, c1, c2, c3, c4, law_col_int, e3, e4, hL, s7, s8, b__law_loose_entry_9, e5, hxl]
    exact hx'
/-! ### rows -/
/-- rows as the law tells them: first step, steps, span, bytes -/
def looseD : Nat → List RowB → List D
  | _, [] => []
  | k, r :: rs => .tup [.int k, .int r.steps, r.span, .lst (nums r.bytes)] :: looseD (k + r.steps) rs
/-- what is kept of drawn rows -/
def RowsOk (line : Int) (rs : List RowB) : Prop := RowsB line rs ∧ ∀ r ∈ rs, SpanD r.span ∧ 1 ≤ r.steps ∧ r.steps ≤ 8 ∧ r.bytes.length ≤ 33 ∧ (∀ b ∈ r.bytes, b < 256) ∧ (∀ b ∈ r.bytes.tail, b < 128)
def rowSteps (rs : List RowB) : Nat := (rs.map (·.steps)).sum
theorem looseD_app : ∀ (rs ss : List RowB) (k : Nat), looseD k (rs ++ ss) = looseD k rs ++ looseD (k + rowSteps rs) ss
  | [], ss, k => by simp [looseD, rowSteps]
  | r :: rs, ss, k => by
    have e : k + r.steps + rowSteps rs = k + rowSteps (r :: rs) := by simp [rowSteps]; omega
    simp only [List.cons_append, looseD, looseD_app rs ss, e]
theorem rowLine_ok {line : Int} (hl : LineOk line) : ∀ (rs : List RowB), (∀ r ∈ rs, SpanD r.span) → LineOk (rowLine line rs) := by
  intro rs
  induction rs generalizing line with
  | nil => intro _; exact hl
  | cons r rs ih => intro h; exact ih (spanLine_ok (h r List.mem_cons_self) hl) fun x hx => h x (List.mem_cons_of_mem _ hx)
theorem looseD_len : ∀ (rs : List RowB) (k : Nat), (looseD k rs).length = rs.length
  | [], _ => rfl
  | r :: rs, k => by simp [looseD, looseD_len rs]
/-- what holds between two rows -/
@[irreducible] def LooseInv (S : Sto) (i : Nat) (line : Int) (most k : Nat) (e : Env) (S' : Sto) : Prop :=
  ∃ q rs sp x y, e = [some (.ref i), some (.int line), some (.int most), some (.ref S.length), some (.int (rowLine line rs)), some (.int (rowSteps rs)), some sp, x, y] ∧ S' = S.set i (wellOb q) ++ [.lst true (looseD 0 rs)] ∧ SpanD sp ∧ RowsOk line rs ∧ rs.length = k
theorem loose_turn (S : Sto) (i : Nat) {line : Int} (hl : LineOk line) (most k : Nat) (hi : i < S.length) (hk : k ≤ 1000) (q1 : Int × Int) (rs : List RowB) {sp : D} (hs1 : SpanD sp) (hrs : RowsOk line rs) (hlen : rs.length = k) (x y : Option D) :
    Goes (l__law_loose_0_1 S.length [some (.ref i), some (.int line), some (.int most), some (.ref S.length), some (.int (rowLine line rs)), some (.int (rowSteps rs)), some sp, x, y] (S.set i (wellOb q1) ++ [.lst true (looseD 0 rs)])) (LooseInv S i line most (k + 1)) := by
  have hln := rowLine_ok hl rs fun r hr => (hrs.2 r hr).1
  have b1 := dr_lo q1 (many := 8) (by omega)
  have b2 := dr_hi q1 (many := 8) (by omega)
  obtain ⟨n, hn⟩ : ∃ n : Nat, dr q1 8 = n := ⟨(dr q1 8).toNat, by omega⟩
  obtain ⟨en, q3, e3, form, bs, rfl, f1, f2, f3, f4, f5⟩ := give_in (m := m__law_loose_entry) (args := [.ref i, sp, .int (rowLine line rs), .int (1 + n : Nat)]) (fun T p hi => loose_entry_sp T i p hs1 hln (by omega) (by omega) hi) S (dw q1 8) [.lst true (looseD 0 rs)] hi
  have hrs' : RowsOk line (rs ++ [⟨1 + n, sp, form, bs⟩]) := by
    refine ⟨rowsB_app.mpr ⟨hrs.1, f1, f2, trivial⟩, ?_⟩
    intro r hr
    rcases List.mem_append.mp hr with hr | hr
    · exact hrs.2 r hr
    · rw [List.mem_singleton.mp hr]
      exact ⟨hs1, by dsimp only; omega, by dsimp only; omega, f3, f4, f5⟩
  have c : (looseD 0 rs).length < 16777216 := by rw [looseD_len]; omega
  simp at e3
  have key := looseD_app rs [⟨1 + n, sp, form, bs⟩] 0
  simp [looseD] at key
  have rS : rowSteps (rs ++ [⟨1 + n, sp, form, bs⟩]) = rowSteps rs + (1 + n) := by simp [rowSteps]
  have rL : rowLine line (rs ++ [⟨1 + n, sp, form, bs⟩]) = spanLine sp (rowLine line rs) := by simp
  have fin : ∀ x y, LooseInv S i line most (k + 1) [some (.ref i), some (.int line), some (.int most), some (.ref S.length), some (.int (spanLine sp (rowLine line rs))), some (.int ((rowSteps rs : Int) + (1 + (n : Int)))), some sp, x, y] (S.set i (wellOb q3) ++ [.lst true (looseD 0 rs ++ [D.tup [D.int (rowSteps rs), D.int (1 + (n : Int)), sp, D.lst (nums bs)]])]) := fun x y => by
    unfold LooseInv
    exact ⟨q3, rs ++ [⟨1 + n, sp, form, bs⟩], sp, x, y, by rw [rL, rS]; simp, by rw [key], hs1, hrs', by simp [hlen]⟩
  rcases hs1 with rfl | ⟨l, rfl, g1, g2⟩ | ⟨l, k', c', b', rfl, g1, g2, g3, g4⟩
  · simp [spanLine] at fin
    simp [l__law_loose_0_1, hi, hn, l__law_loose_0_2, e3, c, l__law_loose_0_3, l__law_loose_0_4, fin]
  · simp [spanLine] at fin
    simp [l__law_loose_0_1, hi, hn, l__law_loose_0_2, e3, c, l__law_loose_0_3, l__law_loose_0_4, fin]
  · simp [spanLine] at fin
    simp [l__law_loose_0_1, hi, hn, l__law_loose_0_2, e3, c, l__law_loose_0_3, l__law_loose_0_4, fin]
theorem loose_sp (S : Sto) (i : Nat) (p : Int × Int) {line : Int} (hl : LineOk line) (most : Nat) (hi : i < S.length) (h0 : 0 < most) (hm : most ≤ 1000) :
    Gives (m__law_loose [.ref i, .int line, .int most] (S.set i (wellOb p))) S i fun d => ∃ rs, d = .lst (looseD 0 rs) ∧ RowsOk line rs ∧ rs.length < most := by
  have a1 := dr_lo p (many := (most : Int)) (by omega)
  have a2 := dr_hi p (many := (most : Int)) (by omega)
  have hr : rngI 0 (dr p most) = some ((List.range (dr p most).toNat).map fun (i : Nat) => .int (0 + (i : Int))) := rngI_0 _ (by omega) (by omega)
  have hdl : ((List.range (dr p most).toNat).map fun (i : Nat) => D.int (0 + (i : Int))).length < most := by simp; omega
  generalize ((List.range (dr p most).toNat).map fun (i : Nat) => D.int (0 + (i : Int))) = ds at hr hdl
  have lp := loop_goesN (LooseInv S i line most) (g := gnM 7) (body := l__law_loose_0) (b := S.length) ds 0 (by
      intro d hd k _ hk e S' hinv
      unfold LooseInv at hinv
      obtain ⟨q, rs, sp, x, y, rfl, rfl, hs, hrs, hlen⟩ := hinv
      obtain ⟨s2, q2, e2, hs2⟩ := give_in (m := m__law_span) (args := [.ref i, .int (rowLine line rs)]) (fun T p hi => span_sp T i p _ hi) S (dw q 3) [.lst true (looseD 0 rs)] hi
      by_cases h3 : 0 < dr q 3
      · simp [l__law_loose_0, hi, h3, e2]
        exact loose_turn S i hl most k hi (by omega) q2 rs hs2 hrs hlen _ _
      · simp [l__law_loose_0, hi, h3]
        exact loose_turn S i hl most k hi (by omega) _ rs hs hrs hlen _ _) [some (.ref i), some (.int line), some (.int most), some (.ref S.length), some (.int line), some (.int 0), some .non, none, none] (S.set i (wellOb (dw p most)) ++ [.lst true []]) (by
      unfold LooseInv
      exact ⟨_, [], _, _, _, rfl, rfl, spanD_non, ⟨trivial, by simp⟩, rfl⟩)
  obtain ⟨e, S', w1, w2⟩ := lp.inv
  unfold LooseInv at w2
  obtain ⟨q, rs, sp, x, y, rfl, rfl, hs, hrs, hlen⟩ := w2
  have hL : limL S.length (looseD 0 rs) = true := by
    have : ∀ (rs : List RowB) k, (∀ r ∈ rs, SpanD r.span) → limL S.length (looseD k rs) = true := by
      intro rs
      induction rs with
      | nil => intro k _; rfl
      | cons r rs ih =>
        intro k h
        have := ih (k + r.steps) fun x hx => h x (List.mem_cons_of_mem _ hx)
        simp [looseD, this, spanD_lim (h r List.mem_cons_self)]
    exact this rs 0 fun r hr => (hrs.2 r hr).1
  have hmost : (0 : Int) < (most : Int) ∧ (most : Int) < 18446744073709551616 := by omega
  unfold m__law_loose
  rw [fnM_ap]
  simp [b__law_loose_0, b__law_loose_1, b__law_loose_2, b__law_loose_3, b__law_loose_4, b__law_loose_5, hi, h0, hmost, hr, w1, hL]
  exact ⟨rs, rfl, hrs, by omega⟩
theorem loose_app (S : Sto) (p : Int × Int) (l : Sto) {line : Int} (hl : LineOk line) (most : Nat) (h0 : 0 < most) (hm : most ≤ 1000) : ∃ rs q, m__law_loose [.ref S.length, .int line, .int most] (S ++ wellOb p :: l) = .ok (.lst (looseD 0 rs)) [] (S ++ wellOb q :: l) ∧ RowsOk line rs ∧ rs.length < most := by
  obtain ⟨d, q, h, rs, rfl, hv⟩ := give_app (args := fun i => [.ref i, .int line, .int most]) (fun T i p hi => loose_sp T i p hl most hi h0 hm) S p l
  exact ⟨rs, q, h, hv⟩
end Mir.Sh
end

/-! ShWri -/
section
set_option linter.all false
/-! ShWri: spans written in entries of any form. -/
namespace Mir.Sh
open Mir
theorem wri_inner {xs pre r : List D} {d : D} (h : ∀ x ∈ xs, SpanD x) (hl : xs.length ≤ 100000) (e0 : xs = pre ++ d :: r) (b : Nat) (S : Sto) (a0 a2 a3 a4 : Option D) (wish : Nat) (hw : wish ≤ 8) : ∀ (n k : Nat), wish - k = n → 1 ≤ k → k ≤ 8 → k ≤ (d :: r).length → (d :: r).take k = List.replicate k d →
    ∃ k', 1 ≤ k' ∧ k' ≤ 8 ∧ k' ≤ (d :: r).length ∧ (d :: r).take k' = List.replicate k' d ∧
      whileM (andT (cmpT ltS (rawM 7) (rawM 8)) (andT (cmpT ltS (op2 addS (rawM 5) (rawM 7)) (fnA lenS (consA (rawM 1) nilA))) (cmpT eqS (op2 idxS (rawM 1) (op2 addS (rawM 5) (rawM 7))) (rawM 6)))) l__law_written_0 b [a0, some (.lst xs), a2, a3, a4, some (.int pre.length), some d, some (.int k), some (.int wish)] S =
        .ok .nx [a0, some (.lst xs), a2, a3, a4, some (.int pre.length), some d, some (.int k'), some (.int wish)] S := by
  intro n
  induction n with
  | zero =>
    intro k hk h1 h8 hlen ht
    refine ⟨k, h1, h8, hlen, ht, ?_⟩
    have c : ¬ k < wish := by omega
    rw [whileM_ap]
    simp [c]
  | succ n ih =>
    intro k hk h1 h8 hlen ht
    have c : k < wish := by omega
    have xl : xs.length = pre.length + (d :: r).length := by rw [e0, List.length_append]
    rw [whileM_ap]
    by_cases c2 : pre.length + k < xs.length
    · have i2 : ixD xs.length ((pre.length : Int) + (k : Int)) = some (pre.length + k) := by
        have := ixD_nat xs.length (pre.length + k) c2
        simpa using this
      have g2 : xs[pre.length + k]? = some xs[pre.length + k] := List.getElem?_eq_getElem c2
      have g3 : (d :: r)[k]? = some xs[pre.length + k] := by
        rw [← g2]
        conv => rhs; rw [e0]
        rw [List.getElem?_append_right (by omega)]
        congr 1; omega
      have eq := dat_cmp (span_dat (h _ (List.getElem_mem c2))) (span_dat (h d (by rw [e0]; simp))) (by omega) (by omega)
      unfold Cmp at eq
      have c2' : (pre.length : Int) + (k : Int) < (xs.length : Int) := by omega
      have cl : xs.length ≤ 16777216 := by omega
      generalize xs[pre.length + k] = y at g2 g3 eq
      by_cases hs : same y d = true
      · have hy := (same_true y d).mp hs
        subst hy
        have ht' : (y :: r).take (k + 1) = List.replicate (k + 1) y := by
          rw [List.take_add_one, ht, g3, List.replicate_succ']
          rfl
        obtain ⟨k', w1, w2, w3, w4, w5⟩ := ih (k + 1) (by omega) (by omega) (by omega) (by omega) ht'
        refine ⟨k', w1, w2, w3, w4, ?_⟩
        simp at w5
        have g2' : xs[pre.length + k] = y := (List.getElem?_eq_some_iff.mp g2).2
        simp [c, c2', i2, g2', eq, l__law_written_0, cl, c2]
        exact w5
      · refine ⟨k, h1, h8, hlen, ht, ?_⟩
        have g2' : xs[pre.length + k] = y := (List.getElem?_eq_some_iff.mp g2).2
        simp [c, c2', i2, g2', eq, hs, cl, c2]
    · refine ⟨k, h1, h8, hlen, ht, ?_⟩
      have c2' : ¬ (pre.length : Int) + (k : Int) < (xs.length : Int) := by omega
      have cl : xs.length ≤ 16777216 := by omega
      simp [c, c2', cl]
theorem rows_snoc {line : Int} {rs : List RowB} (hr : RowsOk line rs) {steps : Nat} {d : D} {x : D} (hd : SpanD d) (h1 : 1 ≤ steps) (h2 : steps ≤ 8) (h : RowOk (rowLine line rs) steps d x) : ∃ form bs, x = .lst (nums bs) ∧ bs.length ≤ 33 ∧ RowsOk line (rs ++ [⟨steps, d, form, bs⟩]) := by
  obtain ⟨form, bs, rfl, g1, g2, g3, g4, g5⟩ := h
  refine ⟨form, bs, rfl, g3, rowsB_app.mpr ⟨hr.1, g1, g2, trivial⟩, fun r hm => ?_⟩
  rcases List.mem_append.mp hm with hm | hm
  · exact hr.2 r hm
  · rw [List.mem_singleton.mp hm]; exact ⟨hd, h1, h2, g3, g4, g5⟩
theorem rows_len {rs : List RowB} (h : ∀ r ∈ rs, SpanD r.span ∧ 1 ≤ r.steps ∧ r.steps ≤ 8 ∧ r.bytes.length ≤ 33 ∧ (∀ b ∈ r.bytes, b < 256) ∧ (∀ b ∈ r.bytes.tail, b < 128)) : (rowBytes rs).length ≤ 33 * rs.length ∧ (rowSpans rs).length ≤ 8 * rs.length ∧ rs.length ≤ (rowSpans rs).length := by
  induction rs with
  | nil => simp
  | cons r rs ih =>
    have := ih fun r hr => h r (List.mem_cons_of_mem _ hr)
    have := h r List.mem_cons_self
    simp; omega
theorem wri_outer (S : Sto) (i : Nat) (hi : i < S.length) {xs : List D} (h : ∀ x ∈ xs, SpanD x) (hl : xs.length ≤ 100000) {line0 : Int} (hl0 : LineOk line0) (a2 : Option D) : ∀ (n : Nat) (post pre : List D) (rs : List RowB) (q : Int × Int) (x y z : Option D), post.length = n → xs = pre ++ post → RowsOk line0 rs → rowSpans rs = pre →
    ∃ rs' q' x' y' z', RowsOk line0 rs' ∧ rowSpans rs' = xs ∧ whileM (cmpT ltS (rawM 5) (fnA lenS (consA (rawM 1) nilA))) l__law_written_1 S.length [some (.ref i), some (.lst xs), a2, some (.lst (nums (rowBytes rs))), some (.int (rowLine line0 rs)), some (.int pre.length), x, y, z] (S.set i (wellOb q)) =
      .ok .nx [some (.ref i), some (.lst xs), a2, some (.lst (nums (rowBytes rs'))), some (.int (rowLine line0 rs')), some (.int xs.length), x', y', z'] (S.set i (wellOb q')) := by
  intro n
  induction n using Nat.strongRecOn with
  | ind n ih =>
    intro post pre rs q x y z hn e0 hr hp
    have cl : xs.length ≤ 16777216 := by omega
    rw [whileM_ap]
    cases post with
    | nil =>
      rw [List.append_nil] at e0
      subst e0
      exact ⟨rs, q, x, y, z, hr, hp, by simp [cl]⟩
    | cons d r =>
      have c : pre.length < xs.length := by rw [e0]; simp
      have hd : SpanD d := h d (by rw [e0]; simp)
      have i1 : ixD xs.length (pre.length : Int) = some pre.length := ixD_nat _ _ c
      have g1 : xs[pre.length]? = some d := by rw [e0]; simp
      have g2 : xs[pre.length] = d := (List.getElem?_eq_some_iff.mp g1).2
      have b1 := dr_lo q (many := 8) (by omega)
      have b2 := dr_hi q (many := 8) (by omega)
      obtain ⟨wish, hwi⟩ : ∃ n : Nat, 1 + dr q 8 = n := ⟨(1 + dr q 8).toNat, by omega⟩
      obtain ⟨steps, s1, s2, s3, s4, s5⟩ := wri_inner h hl e0 S.length (S.set i (wellOb (dw q 8))) (some (.ref i)) a2 (some (.lst (nums (rowBytes rs)))) (some (.int (rowLine line0 rs))) wish (by omega) _ 1 rfl (by omega) (by omega) (by simp) rfl
      have lo := rowLine_ok hl0 rs fun r hr' => (hr.2 r hr').1
      obtain ⟨dd, q2, e2, hro⟩ := (loose_entry_sp S i (dw q 8) hd lo s1 s2 hi).inv
      obtain ⟨form, bs, rfl, bl, hr'⟩ := rows_snoc hr hd s1 s2 hro
      have rl := rows_len hr.2
      rw [hp] at rl
      have c2 : (rowBytes rs).length + bs.length ≤ 16777216 := by omega
      have e1 : xs = (pre ++ (d :: r).take steps) ++ (d :: r).drop steps := by rw [List.append_assoc, List.take_append_drop]; exact e0
      have pl : (pre ++ (d :: r).take steps).length = pre.length + steps := by rw [List.length_append, List.length_take]; omega
      have rp : rowSpans (rs ++ [⟨steps, d, form, bs⟩]) = pre ++ (d :: r).take steps := by rw [s4]; simp [hp]
      have dl : ((d :: r).drop steps).length < n := by rw [List.length_drop]; simp at hn ⊢; omega
      obtain ⟨rs', q', x', y', z', w1, w2, w3⟩ := ih _ dl _ _ _ q2 (some d) (some (.int steps)) (some (.int wish)) rfl e1 hr' rp
      refine ⟨rs', q', x', y', z', w1, w2, ?_⟩
      rw [pl] at w3
      have nr := spanD_nr hd
      simp at s5 w3
      clear ih e0 e1 hr' rp dl rl w1 w2 s3 s4 hro
      rcases hd with rfl | ⟨l, rfl, g5, g6⟩ | ⟨l, k, cc, bb, rfl, ⟨g7, g8, g9⟩, _⟩
      · simp [spanLine] at w3
        simp [cl, c, l__law_written_1, l__law_written_1_1, l__law_written_1_2, l__law_written_1_3, l__law_written_1_4, l__law_written_1_5, l__law_written_1_6, i1, g2, hi, hwi, s5, e2, c2]
        exact w3
      · simp [spanLine] at w3
        simp [cl, c, l__law_written_1, l__law_written_1_1, l__law_written_1_2, l__law_written_1_3, l__law_written_1_4, l__law_written_1_5, l__law_written_1_6, i1, g2, hi, hwi, s5, e2, c2]
        exact w3
      · simp [spanLine] at w3
        simp [cl, c, l__law_written_1, l__law_written_1_1, l__law_written_1_2, l__law_written_1_3, l__law_written_1_4, l__law_written_1_5, l__law_written_1_6, i1, g2, hi, hwi, s5, e2, c2]
        exact w3
theorem written_sp (S : Sto) (i : Nat) (p : Int × Int) (hi : i < S.length) {xs : List D} (h : ∀ x ∈ xs, SpanD x) (hl : xs.length ≤ 100000) {line : Int} (hl0 : LineOk line) :
    Gives (m__law_written [.ref i, .lst xs, .int line] (S.set i (wellOb p))) S i fun d => ∃ rs, d = .lst (nums (rowBytes rs)) ∧ RowsOk line rs ∧ rowSpans rs = xs := by
  obtain ⟨rs, q, x, y, z, w1, w2, w3⟩ := wri_outer S i hi h hl hl0 (some (.int line)) _ xs [] [] p none none none rfl rfl ⟨trivial, by simp⟩ rfl
  simp at w3
  unfold m__law_written
  rw [fnM_ap]
  simp [b__law_written_0, b__law_written_1, b__law_written_2, b__law_written_3, b__law_written_4, hi, w3]
  exact ⟨rs, rfl, w1, w2⟩
theorem written_app (S : Sto) (p : Int × Int) (l : Sto) {xs : List D} (h : ∀ x ∈ xs, SpanD x) (hl : xs.length ≤ 100000) {line : Int} (hl0 : LineOk line) : ∃ rs q, m__law_written [.ref S.length, .lst xs, .int line] (S ++ wellOb p :: l) = .ok (.lst (nums (rowBytes rs))) [] (S ++ wellOb q :: l) ∧ RowsOk line rs ∧ rowSpans rs = xs := by
  obtain ⟨d, q, e, rs, rfl, hv⟩ := give_app (args := fun i => [.ref i, .lst xs, .int line]) (fun T i p hi => written_sp T i p hi h hl hl0) S p l
  exact ⟨rs, q, e, hv⟩
end Mir.Sh
end

/-! ShEdt -/
section
set_option linter.all false
/-! ShEdt: tables by their spans; moved, cut, joined, rebased of them. -/
namespace Mir.Sh
open Mir
/-- a table of these spans and this first line -/
def TabOf (d : D) (xs : List D) (line : Int) : Prop := ∃ bs es, d = tabD bs line es ∧ EntsOk es ∧ spansOf es = xs
theorem tabOf_of {xs : List D} (h : ∀ x ∈ xs, SpanD x) {line : Int} (hl : LineOk line) : TabOf (ofD xs line) xs line := ⟨_, _, rfl, ofEnts_ok h hl, (readAll_of h hl).2⟩
namespace TabOf
variable {d : D} {xs : List D} {line : Int}
theorem sp (t : TabOf d xs line) : ∀ x ∈ xs, SpanD x := by
  obtain ⟨bs, es, rfl, h, rfl⟩ := t
  exact spansOf_span h
theorem spans (t : TabOf d xs line) (S : Sto) : m_Table_spans [d] S = .ok (.lst xs) [] S := by
  obtain ⟨bs, es, rfl, h, rfl⟩ := t
  exact Table_spans_eq h bs line S
theorem first (t : TabOf d xs line) (S : Sto) : m_Table_first_line [d] S = .ok (.int line) [] S := by
  obtain ⟨bs, es, rfl, h, rfl⟩ := t
  exact Table_first_line_eq bs line es S
theorem count (t : TabOf d xs line) (S : Sto) : m_Table_step_count [d] S = .ok (.int xs.length) [] S := by
  obtain ⟨bs, es, rfl, h, rfl⟩ := t
  exact Table_step_count_eq bs line es S
theorem nr (t : TabOf d xs line) : d.isRef = false := by
  obtain ⟨bs, es, rfl, h, rfl⟩ := t
  rfl
theorem lim (t : TabOf d xs line) (n : Nat) : d.lim n = true := by
  obtain ⟨bs, es, rfl, h, rfl⟩ := t
  exact tab_lim h n
theorem cls (t : TabOf d xs line) : ∃ f : List (String × D), f.lookup "spans" = none ∧ ∀ S, classOf S d = some ("Table", f) := by
  obtain ⟨bs, es, rfl, h, rfl⟩ := t
  exact ⟨_, rfl, fun S => rfl⟩
end TabOf
/-- the first line that is too great -/
def top1 : D → Option Int
  | .tup (.int l :: .int k :: _) => if 2147483647 < l then some l else if 2147483647 < k then some k else none
  | _ => none
def firstTop : List D → Option Int
  | [] => none
  | x :: r => (top1 x).or (firstTop r)
theorem firstTop_non (r : List D) : firstTop (.non :: r) = firstTop r := rfl
theorem firstTop_tup (l k : Int) (t r : List D) : firstTop (.tup (.int l :: .int k :: t) :: r) = if 2147483647 < l then some l else if 2147483647 < k then some k else firstTop r := by
  rw [firstTop, top1]
  split
  · rfl
  · split <;> rfl
/-- what mv makes -/
def ShpD (d : D) : Prop := d = .non ∨ ∃ (l k : Int) (c b : D), d = .tup [.int l, .int k, c, b] ∧ c.isRef = false ∧ b.isRef = false ∧ ∀ n, c.lim n = true ∧ b.lim n = true
theorem mv_shp {d : D} (h : SpanD d) (line removed by_ : Int) : ShpD (mv line removed by_ d) := by
  rcases h with rfl | ⟨l, rfl, _⟩ | ⟨l, k, c, b, rfl, _⟩
  · exact .inl rfl
  · simp only [mv]; split
    · exact .inl rfl
    · exact .inr ⟨_, _, _, _, rfl, rfl, rfl, fun n => by simp⟩
  · simp only [mv]; split
    · exact .inl rfl
    · exact .inr ⟨_, _, _, _, rfl, rfl, rfl, fun n => by simp⟩
theorem firstTop_app (xs ys : List D) : firstTop (xs ++ ys) = (firstTop xs).or (firstTop ys) := by
  induction xs with
  | nil => simp [firstTop]
  | cons x xs ih => rw [List.cons_append, firstTop, firstTop, ih, Option.or_assoc]
theorem firstTop_ok {ys : List D} (h : ∀ y ∈ ys, ShpD y) (h0 : firstTop ys = none) : ∀ y ∈ ys, topOk y := by
  induction ys with
  | nil => simp
  | cons y ys ih =>
    have hy := h y List.mem_cons_self
    have hys := fun z hz => h z (List.mem_cons_of_mem _ hz)
    rcases hy with rfl | ⟨l, k, c, b, rfl, _⟩
    · intro z hz
      rcases List.mem_cons.mp hz with rfl | hz
      · trivial
      · exact ih hys h0 z hz
    · rw [firstTop_tup] at h0
      split at h0
      · cases h0
      · split at h0
        · cases h0
        · intro z hz
          rcases List.mem_cons.mp hz with rfl | hz
          · exact ⟨by omega, by omega⟩
          · exact ih hys h0 z hz
theorem want_lines_gen (b : Nat) (v : Option D) (S : Sto) : ∀ (ds : List D) (x y : Option D), (∀ d ∈ ds, ShpD d) →
    match firstTop ds with
    | none => Ends (loopM (gnM 1) l_want_lines_1 b ds [v, x, y] S) .nx fun e S' => e.length = 3 ∧ S' = S
    | some z => Raises (loopM (gnM 1) l_want_lines_1 b ds [v, x, y] S) "BadLine" [("line", .int z)] fun S' => S' = S
  | [], x, y, _ => by simp [firstTop]
  | d :: ds, x, y, h => by
    rw [loopM_cons]
    have hd := h d List.mem_cons_self
    have ih := fun y => want_lines_gen b v S ds (some d) y fun x hx => h x (List.mem_cons_of_mem _ hx)
    rcases hd with rfl | ⟨l, k, c, b', rfl, n1, n2, hl⟩
    · rw [firstTop_non]
      cases hf : firstTop ds with
      | none =>
        rw [hf] at ih
        simp [l_want_lines_1]
        exact ih _
      | some z =>
        rw [hf] at ih
        simp [l_want_lines_1]
        exact ih _
    · have t2 : cutL [D.int l, .int k, c, b'] none (some 2) = [.int l, .int k] := rfl
      rw [firstTop_tup]
      by_cases c1 : (2147483647 : Int) < l
      · rw [if_pos c1]
        simp [l_want_lines_1, t2, l_want_lines_0, c1, loopM_cons]
      · rw [if_neg c1]
        by_cases c2 : (2147483647 : Int) < k
        · rw [if_pos c2]
          simp [l_want_lines_1, t2, l_want_lines_0, c1, c2, loopM_cons]
        · rw [if_neg c2]
          cases hf : firstTop ds with
          | none =>
            rw [hf] at ih
            simp [l_want_lines_1, t2, l_want_lines_0, c1, c2, loopM_cons]
            exact ih _
          | some z =>
            rw [hf] at ih
            simp [l_want_lines_1, t2, l_want_lines_0, c1, c2, loopM_cons]
            exact ih _
theorem want_lines_bad {ds : List D} (h : ∀ d ∈ ds, ShpD d) {z : Int} (hf : firstTop ds = some z) (S : Sto) : m_want_lines [.lst ds] S = .exc "BadLine" [("line", .int z)] [] S := by
  have w := want_lines_gen S.length (some (.lst ds)) S ds none none h
  rw [hf] at w
  obtain ⟨e, S', w1, w3⟩ := w.inv
  subst w3
  unfold m_want_lines
  rw [fnM_ap]
  simp [b_want_lines_0, w1]
theorem moved_bad {d : D} {xs : List D} {line0 : Int} (t : TabOf d xs line0) (hn : xs.length ≤ 40000) {line removed added : Int} (hl : LineOk line) (h2 : 0 ≤ removed ∧ removed ≤ 2147483647) (h3 : 0 ≤ added ∧ added ≤ 2147483647)
    {z : Int} (hf : firstTop (mvs line removed added xs) = some z) (S : Sto) : m_moved [d, .int line, .int removed, .int added] S = .exc "BadLine" [("line", .int z)] [] S := by
  obtain ⟨bs, es, rfl, hes, rfl⟩ := t
  have sp := fun S => Table_spans_eq hes bs line0 S
  have sps := spansOf_span hes
  have wl := fun S => want_line_eq (d := .int line) rfl (by simp) S
  have i1 : isInt 1 2147483647 (.int line) = true := by simp [isInt, hl.1, hl.2]
  simp only [i1, if_true] at wl
  have i2 := fun S => is_integer_eq (d := .int removed) rfl 0 2147483647 S
  have i3 := fun S => is_integer_eq (d := .int added) rfl 0 2147483647 S
  have j2 : isInt 0 2147483647 (.int removed) = true := by simp [isInt, h2.1, h2.2]
  have j3 : isInt 0 2147483647 (.int added) = true := by simp [isInt, h3.1, h3.2]
  rw [j2] at i2
  rw [j3] at i3
  have cm := moved_comp sps hn line removed (added - removed) S.length (some (tabD bs line0 es)) (some (.int added)) (some (.int added)) none S removed added rfl rfl rfl
  have shp : ∀ x ∈ mvs line removed added (spansOf es), ShpD x := fun x hx => by
    obtain ⟨d, hd, rfl⟩ := List.mem_map.mp hx
    exact mv_shp (sps d hd) _ _ _
  have wls := fun S => want_lines_bad shp hf S
  unfold mvs at *
  generalize (spansOf es).map (mv line removed (added - removed)) = ys at *
  unfold m_moved
  rw [fnM_ap]
  simp [b_moved_0, wl, b_moved_1, l_moved_0, i2, i3, b_moved_2, sp, cm, b_moved_3, wls, loopM_cons]
theorem moved_ok {d : D} {xs : List D} {line0 : Int} (t : TabOf d xs line0) (hn : xs.length ≤ 40000) (hl0 : LineOk line0) {line removed added : Int} (hl : LineOk line) (h2 : 0 ≤ removed ∧ removed ≤ 2147483647) (h3 : 0 ≤ added ∧ added ≤ 2147483647)
    (hf : firstTop (mvs line removed added xs) = none) : (∀ S, m_moved [d, .int line, .int removed, .int added] S = .ok (ofD (mvs line removed added xs) line0) [] S) ∧ ∀ x ∈ mvs line removed added xs, SpanD x := by
  have sps := t.sp
  have shp : ∀ x ∈ mvs line removed added xs, ShpD x := fun x hx => by
    obtain ⟨d, hd, rfl⟩ := List.mem_map.mp hx
    exact mv_shp (sps d hd) _ _ _
  have tp := firstTop_ok shp hf
  refine ⟨fun S => ?_, mvs_span sps hl.1 h2.1 h3.1 tp⟩
  obtain ⟨bs, es, rfl, hes, rfl⟩ := t
  exact moved_eq hes hn bs hl0 hl h2 h3 tp S
theorem rebased_eq {d : D} {xs : List D} {l1 : Int} (t : TabOf d xs l1) (hn : xs.length ≤ 40000) {line : Int} (hl : LineOk line) (S : Sto) : m_rebased [d, .int line] S = .ok (ofD xs line) [] S := by
  have sp := t.spans
  have nr := t.nr
  obtain ⟨f, lk, cls⟩ := t.cls
  have of := fun S => Table_of_eq S (.inl (rfl : D.lst xs = _)) t.sp hn hl
  have lim := (tabOf_of t.sp hl).lim S.length
  unfold m_rebased
  rw [fnM_ap]
  simp [b_rebased_0, nr, cls, lk, sp, of, lim]
theorem shortest_of {d : D} {xs : List D} {line : Int} (t : TabOf d xs line) (hn : xs.length ≤ 40000) (hl : LineOk line) (S : Sto) : m_shortest [d] S = .ok (ofD xs line) [] S := by
  obtain ⟨bs, es, rfl, h, rfl⟩ := t
  exact shortest_eq h hn bs hl S
theorem joined_eq {d d' : D} {xs ys : List D} {l1 l2 : Int} (t : TabOf d xs l1) (t' : TabOf d' ys l2) (hn : xs.length + ys.length ≤ 40000) (hl : LineOk l1) (S : Sto) : m_joined [d, d'] S = .ok (ofD (xs ++ ys) l1) [] S := by
  obtain ⟨bs, es, rfl, h, rfl⟩ := t
  obtain ⟨bs', es', rfl, h', rfl⟩ := t'
  have hs : ∀ x ∈ spansOf es ++ spansOf es', SpanD x := fun x hx => (List.mem_append.mp hx).elim (spansOf_span h x) (spansOf_span h' x)
  have sp := fun S => Table_spans_eq h bs l1 S
  have sp' := fun S => Table_spans_eq h' bs' l2 S
  have of := fun S => Table_of_eq S (.inl (rfl : D.lst (spansOf es ++ spansOf es') = _)) hs (by simp; omega) hl
  have lim := (tabOf_of hs hl).lim S.length
  have c : (spansOf es).length + (spansOf es').length ≤ 16777216 := by omega
  unfold m_joined
  rw [fnM_ap]
  simp [b_joined_0, sp, sp', of, lim, c]
theorem cut_eq {d : D} {xs : List D} {l1 : Int} (t : TabOf d xs l1) (hn : xs.length ≤ 40000) (hl : LineOk l1) {a b : Nat} (h1 : a ≤ b) (h2 : b ≤ xs.length) (S : Sto) : m_cut [d, .int a, .int b] S = .ok (ofD ((xs.drop a).take (b - a)) l1) [] S := by
  obtain ⟨bs, es, rfl, h, rfl⟩ := t
  have hs : ∀ x ∈ ((spansOf es).drop a).take (b - a), SpanD x := fun x hx => spansOf_span h x (List.mem_of_mem_drop (List.mem_of_mem_take hx))
  have sp := fun S => Table_spans_eq h bs l1 S
  have of := fun S => Table_of_eq S (.inl (rfl : D.lst (((spansOf es).drop a).take (b - a)) = _)) hs (by rw [List.length_take, List.length_drop]; omega) hl
  have lim := (tabOf_of hs hl).lim S.length
  have cm := cutL_mid (spansOf es) a (b - a) (by omega)
  rw [show (a : Int) + ((b - a : Nat) : Int) = (b : Int) by omega] at cm
  have i1 := fun S => is_integer_eq (d := .int a) rfl 0 ((spansOf es).length : Int) S
  have i2 := fun S => is_integer_eq (d := .int b) rfl a ((spansOf es).length : Int) S
  have j1 : isInt 0 ((spansOf es).length : Int) (.int a) = true := by simp [isInt]; omega
  have j2 : isInt a ((spansOf es).length : Int) (.int b) = true := by simp [isInt]; omega
  rw [j1] at i1
  rw [j2] at i2
  have w1 : ∀ S, m_want_step [.int a, .int 0, .int (spansOf es).length] S = .ok .non [] S := fun S => by
    unfold m_want_step; rw [fnM_ap]; simp [b_want_step_0, i1]
  have w2 : ∀ S, m_want_step [.int b, .int a, .int (spansOf es).length] S = .ok .non [] S := fun S => by
    unfold m_want_step; rw [fnM_ap]; simp [b_want_step_0, i2]
  unfold m_cut
  rw [fnM_ap]
  simp [b_cut_0, b_cut_1, b_cut_2, w1, w2, sp, of, lim, cm]
end Mir.Sh
end

/-! ShEdit -/
section
set_option linter.all false
/-! ShEdit: edits of the source, drawn; tables of rows. -/
namespace Mir.Sh
open Mir
theorem rows_tab {line : Int} {rs : List RowB} (h : RowsOk line rs) (hn : rs.length ≤ 10000) (hl : LineOk line) : ∃ d, (∀ S e, newR true e S (m_Table___init__ [.ref S.length, .lst (nums (rowBytes rs)), .int line] (S ++ [.ins "Table" []])) = .ok d e S) ∧ TabOf d (rowSpans rs) line := by
  have rl := rows_len h.2
  have rd := readAll_rows h.1
  have ok := (readAll_all rd).2
  have hb : ∀ b ∈ rowBytes rs, b < 256 := fun b hb => by
    obtain ⟨r, hr, hb⟩ := List.mem_flatMap.mp hb
    exact (h.2 r hr).2.2.2.2.1 b hb
  have t := fun S e => Table_new S e (data := .lst (nums (rowBytes rs))) ⟨.inr (.inl rfl), hb⟩ (by omega) hl.1 hl.2
  unfold TabSp at t
  rw [rd] at t
  exact ⟨_, t, _, _, rfl, ok, spansOf_rows rs 0⟩
/-- the lines of some spans -/
theorem edit_loop (b : Nat) (T : Sto) (a0 a1 a4 a5 : Option D) : ∀ (xs ls : List D) (x : Option D), (∀ d ∈ xs, SpanD d) → (∀ d ∈ ls, ∃ z : Int, d = .int z) → ls ≠ [] → ls.length + 2 * xs.length ≤ 100000 →
    ∃ ls' x', (∀ d ∈ ls', ∃ z : Int, d = .int z) ∧ ls' ≠ [] ∧ ls'.length ≤ 100000 ∧ loopM (gnM 3) l__law_edit_0 b xs [a0, a1, some (.lst ls), x, a4, a5] T = .ok .nx [a0, a1, some (.lst ls'), x', a4, a5] T
  | [], ls, x, _, h2, h3, h4 => ⟨ls, x, h2, h3, by omega, rfl⟩
  | d :: xs, ls, x, h1, h2, h3, h4 => by
    have hd := h1 d List.mem_cons_self
    have hxs := fun x hx => h1 x (List.mem_cons_of_mem _ hx)
    simp at h4
    have c : ls.length ≤ 16777214 := by omega
    rcases hd with rfl | ⟨l, rfl, _⟩ | ⟨l, k, cc, bb, rfl, _⟩
    · obtain ⟨ls', x', w1, w2, w3, w4⟩ := edit_loop b T a0 a1 a4 a5 xs ls (some .non) hxs h2 h3 (by omega)
      refine ⟨ls', x', w1, w2, w3, ?_⟩
      rw [loopM_cons]
      simp [l__law_edit_0]
      exact w4
    · obtain ⟨ls', x', w1, w2, w3, w4⟩ := edit_loop b T a0 a1 a4 a5 xs (ls ++ [.int l, .int l]) (some (.tup [.int l, .int l, .non, .non])) hxs (fun d hd => by
        rcases List.mem_append.mp hd with hd | hd
        · exact h2 d hd
        · simp at hd; exact ⟨l, hd⟩) (by simp) (by simp; omega)
      refine ⟨ls', x', w1, w2, w3, ?_⟩
      rw [loopM_cons]
      simp [l__law_edit_0, c]
      exact w4
    · obtain ⟨ls', x', w1, w2, w3, w4⟩ := edit_loop b T a0 a1 a4 a5 xs (ls ++ [.int l, .int k]) (some (.tup [.int l, .int k, .int cc, .int bb])) hxs (fun d hd => by
        rcases List.mem_append.mp hd with hd | hd
        · exact h2 d hd
        · simp at hd; rcases hd with hd | hd; exact ⟨l, hd⟩; exact ⟨k, hd⟩) (by simp) (by simp; omega)
      refine ⟨ls', x', w1, w2, w3, ?_⟩
      rw [loopM_cons]
      simp [l__law_edit_0, c]
      exact w4
def EditD (d : D) : Prop := ∃ l r a : Int, d = .tup [.int l, .int r, .int a] ∧ LineOk l ∧ (0 ≤ r ∧ r ≤ 2147483647) ∧ (0 ≤ a ∧ a ≤ 2147483647)
theorem limL_ints {n : Nat} {ls : List D} (h : ∀ d ∈ ls, ∃ z : Int, d = .int z) : limL n ls = true := by
  rw [limL_mem]
  intro d hd
  obtain ⟨z, rfl⟩ := h d hd
  simp
theorem edit_sp (S : Sto) (i : Nat) (p : Int × Int) (hi : i < S.length) {xs : List D} (h : ∀ x ∈ xs, SpanD x) (hn : xs.length ≤ 10000) : Gives (m__law_edit [.ref i, .lst xs] (S.set i (wellOb p))) S i EditD := by
  obtain ⟨ls, x', w1, w2, w3, w4⟩ := edit_loop S.length (S.set i (wellOb p)) (some (.ref i)) (some (.lst xs)) none none xs [.int 1] none h (by simp) (by simp) (by simp; omega)
  obtain ⟨m, hm, q1, e1⟩ := one_inv (r := _) (S := S) (i := i) (p := p) (xs := ls) rfl hi (List.length_pos_iff.mpr w2) (by omega) (limL_ints w1)
  obtain ⟨z, rfl⟩ := w1 m hm
  have a1 := dr_lo q1 (many := 5) (by omega)
  have a2 := dr_hi q1 (many := 5) (by omega)
  generalize hq2 : dw q1 5 = q2
  generalize hz : z + dr q1 5 - 2 = y
  have b1 := dr_lo q2 (many := 90) (by omega)
  have b2 := dr_hi q2 (many := 90) (by omega)
  generalize hv2 : dr q2 90 = v2 at b1 b2
  generalize hq3 : dw q2 90 = q3
  have c1 := dr_lo q3 (many := 3) (by omega)
  have c2 := dr_hi q3 (many := 3) (by omega)
  generalize hv3 : dr q3 3 = v3 at c1 c2
  generalize hq4 : dw q3 3 = q4
  have sz : ∀ d ∈ [D.int 0, .int 0, .int 1, .int 2, .int v2, .int (2147483647 - v3)], ∃ r : Int, d = .int r ∧ 0 ≤ r ∧ r ≤ 2147483647 := fun d hd => by
    simp only [List.mem_cons, List.not_mem_nil, or_false] at hd
    rcases hd with rfl | rfl | rfl | rfl | rfl | rfl <;> exact ⟨_, rfl, by omega, by omega⟩
  obtain ⟨m1, hm1, q5, e2⟩ := one_inv (r := _) (S := S) (i := i) (p := q4) (xs := [.int 0, .int 0, .int 1, .int 2, .int v2, .int (2147483647 - v3)]) rfl hi (by simp) (by simp) (by simp)
  obtain ⟨m2, hm2, q6, e3⟩ := one_inv (r := _) (S := S) (i := i) (p := q5) (xs := [.int 0, .int 0, .int 1, .int 2, .int v2, .int (2147483647 - v3)]) rfl hi (by simp) (by simp) (by simp)
  obtain ⟨r1, rfl, r2, r3⟩ := sz m1 hm1
  obtain ⟨s1, rfl, s2, s3⟩ := sz m2 hm2
  unfold m__law_edit
  rw [fnM_ap]
  simp [b__law_edit_0, b__law_edit_1, b__law_edit_2, b__law_edit_3, b__law_edit_4, hi, w4, e1, hq2, hz, hv2, hq3, hv3, hq4, e2, e3]
  exact ⟨_, _, _, rfl, ⟨by omega, by omega⟩, ⟨r2, r3⟩, s2, s3⟩
theorem edit_app (S : Sto) (p : Int × Int) (l : Sto) {xs : List D} (h : ∀ x ∈ xs, SpanD x) (hn : xs.length ≤ 10000) : ∃ d q, m__law_edit [.ref S.length, .lst xs] (S ++ wellOb p :: l) = .ok d [] (S ++ wellOb q :: l) ∧ EditD d :=
  give_app (args := fun i => [.ref i, .lst xs]) (fun T i p hi => edit_sp T i p hi h hn) S p l

theorem firstTop_none {ys : List D} (h : ∀ y ∈ ys, ShpD y) (h0 : ∀ y ∈ ys, topOk y) : firstTop ys = none := by
  induction ys with
  | nil => rfl
  | cons y ys ih =>
    have := ih (fun z hz => h z (List.mem_cons_of_mem _ hz)) fun z hz => h0 z (List.mem_cons_of_mem _ hz)
    have t := h0 y List.mem_cons_self
    rcases h y List.mem_cons_self with rfl | ⟨l, k, c, b, rfl, _⟩
    · exact this
    · rw [firstTop_tup, if_neg (by have := t.1; omega), if_neg (by have := t.2; omega)]; exact this
theorem mvs_app (l r a : Int) (xs ys : List D) : mvs l r a (xs ++ ys) = mvs l r a xs ++ mvs l r a ys := List.map_append
theorem mvs_cut (l r a : Int) (xs : List D) (i n : Nat) : mvs l r a ((xs.drop i).take n) = ((mvs l r a xs).drop i).take n := by
  unfold mvs; rw [List.map_take, List.map_drop]
end Mir.Sh
end

/-! ShSame -/
section
set_option linter.all false
/-! ShSame: a thing compared with itself. -/
namespace Mir.Sh
open Mir
mutual
def okD : Nat → D → Bool
  | _, .non => true
  | _, .bl _ => true
  | _, .int _ => true
  | _, .str s => s.all fun c => decide (c < 1114112)
  | _, .edi => true
  | n, .lst xs => decide (0 < n) && okL (n - 1) xs
  | n, .tup xs => decide (0 < n) && okL (n - 1) xs
  | _, _ => false
def okL : Nat → List D → Bool
  | _, [] => true
  | n, d :: ds => okD n d && okL n ds
end
@[simp] theorem okD_non (n : Nat) : okD n .non = true := by rw [okD]
@[simp] theorem okD_bl (n : Nat) (b : Bool) : okD n (.bl b) = true := by rw [okD]
@[simp] theorem okD_int (n : Nat) (i : Int) : okD n (.int i) = true := by rw [okD]
theorem okD_str (n : Nat) (s : List Nat) : okD n (.str s) = s.all fun c => decide (c < 1114112) := by rw [okD]
@[simp] theorem okD_cps (n : Nat) (s : String) : okD n (.str (cps s)) = true := by rw [okD_str]; exact cps_ok s
@[simp] theorem okD_edi (n : Nat) : okD n .edi = true := by rw [okD]
@[simp] theorem okD_lst (n : Nat) (xs : List D) : okD (n + 1) (.lst xs) = okL n xs := by rw [okD]; simp
@[simp] theorem okD_tup (n : Nat) (xs : List D) : okD (n + 1) (.tup xs) = okL n xs := by rw [okD]; simp
@[simp] theorem okL_nil (n : Nat) : okL n [] = true := by rw [okL]
@[simp] theorem okL_cons (n : Nat) (d : D) (ds : List D) : okL n (d :: ds) = (okD n d && okL n ds) := by rw [okL]
mutual
theorem sameD_self : ∀ (n : Nat) (d : D), okD n d = true → sameD n d d = true
  | n, .lst xs, h => by
    rw [okD, Bool.and_eq_true] at h
    rw [sameD, Bool.and_eq_true]
    exact ⟨h.1, sameL_self _ xs h.2⟩
  | n, .tup xs, h => by
    rw [okD, Bool.and_eq_true] at h
    rw [sameD, Bool.and_eq_true]
    exact ⟨h.1, sameL_self _ xs h.2⟩
  | _, .non, _ | _, .bl _, _ | _, .int _, _ | _, .str _, _ | _, .edi, _ => by simp [sameD]
  | _, .byt _, h | _, .frz _, h | _, .ins _ _, h | _, .exn _ _, h | _, .gl _, h | _, .ty _, h | _, .ref _, h => by simp [okD] at h
theorem sameL_self : ∀ (n : Nat) (xs : List D), okL n xs = true → sameL n xs xs = true
  | _, [], _ => by rw [sameL]
  | n, x :: xs, h => by
    rw [okL, Bool.and_eq_true] at h
    rw [sameL, sameD_self n x h.1, sameL_self n xs h.2]; rfl
end
mutual
theorem eqv_self : ∀ (n : Nat) (d : D), okD n d = true → D.dataN n d = true → D.eqv d d = true
  | n, .lst xs, h, h2 => by
    rw [okD, Bool.and_eq_true] at h
    rw [D.dataN, Bool.and_eq_true] at h2
    rw [D.eqv]
    exact eqvL_self _ xs h.2 h2.2
  | n, .tup xs, h, h2 => by
    rw [okD, Bool.and_eq_true] at h
    rw [D.dataN, Bool.and_eq_true] at h2
    rw [D.eqv]
    exact eqvL_self _ xs h.2 h2.2
  | _, .non, _, _ | _, .bl _, _, _ | _, .int _, _, _ | _, .str _, _, _ => by simp [D.eqv]
  | _, .edi, _, h | _, .byt _, _, h | _, .frz _, _, h | _, .ins _ _, _, h | _, .exn _ _, _, h | _, .gl _, _, h | _, .ty _, _, h | _, .ref _, _, h => by simp [D.dataN] at h
theorem eqvL_self : ∀ (n : Nat) (xs : List D), okL n xs = true → dataL n xs = true → eqvL xs xs = true
  | _, [], _, _ => by rw [eqvL]
  | n, x :: xs, h, h2 => by
    rw [okL, Bool.and_eq_true] at h
    rw [dataL, Bool.and_eq_true] at h2
    rw [eqvL, eqv_self n x h.1 h2.1, eqvL_self n xs h.2 h2.2]; rfl
end
theorem eq_self (S : Sto) {d : D} (h : okD 16 d = true) : eqS S d d = some true := by
  have e : deref S d = d := by cases d <;> first | rfl | simp [okD] at h
  unfold eqS
  rw [e]
  unfold eqD
  split
  · rename_i h2
    rw [Bool.and_self] at h2
    rw [eqv_self 16 d h h2]
  · have s := sameD_self 16 d h
    split
    · simp [okD] at h
    · rename_i h2 _ _ _
      unfold eqX; rw [s]
      cases d <;> first | rfl | (simp [okD] at h; done) | (exfalso; apply h2; simp [D.dataN]; done) | skip
      rw [okD] at h
      exfalso; apply h2; rw [D.dataN, h]; rfl
theorem ne_self (S : Sto) {d : D} (h : okD 16 d = true) : neS S d d = some false := by
  unfold neS; rw [eq_self S h]; rfl
/-- a list and the empty one -/
theorem ne_nil (S : Sto) {n : Nat} {xs : List D} (h : dat n (.lst xs) = true) (hn : n ≤ 16) : neS S (.lst xs) (.lst []) = some (!xs.isEmpty) := by
  rw [(dat_cmp h (m := 1) (by simp) hn (by omega)).ne]
  cases xs with
  | nil => simp
  | cons x xs => rw [(same_false _ _).mpr (by simp)]; rfl
theorem eq_nil (S : Sto) {n : Nat} {xs : List D} (h : dat n (.lst xs) = true) (hn : n ≤ 16) : eqS S (.lst xs) (.lst []) = some xs.isEmpty := by
  rw [dat_cmp h (m := 1) (by simp) hn (by omega)]
  cases xs with
  | nil => simp
  | cons x xs => rw [(same_false _ _).mpr (by simp)]; rfl
@[simp] theorem ne_nil1 (S : Sto) {xs : List D} (h : dat 1 (.lst xs) = true) : neS S (.lst xs) (.lst []) = some (!xs.isEmpty) := ne_nil S h (by omega)
@[simp] theorem eq_nil1 (S : Sto) {xs : List D} (h : dat 1 (.lst xs) = true) : eqS S (.lst xs) (.lst []) = some xs.isEmpty := eq_nil S h (by omega)
end Mir.Sh
end

/-! K33_P -/
section
set_option linter.all false
/-! K33_P: the law, on meanings. -/
namespace Mir.K33
open Mir Mir.Sh
theorem law_moved_eq {d : D} (h : SpanD d) {line removed added : Int} (h0 : 0 ≤ removed) (S : Sto) : m__law_moved [d, .int line, .int removed, .int added] S = .ok (mv line removed (added - removed) d) [] S := by
  have go : ∀ (l k : Int) (c b : D), l ≤ k → c.isRef = false → b.isRef = false → c.lim S.length = true → b.lim S.length = true → m__law_moved [.tup [.int l, .int k, c, b], .int line, .int removed, .int added] S = .ok (mv line removed (added - removed) (.tup [.int l, .int k, c, b])) [] S := by
    intro l k c b hlk n1 n2 l1 l2
    unfold m__law_moved
    rw [fnM_ap]
    unfold mv
    have t2 : cutL [D.int l, .int k, c, b] none (some 2) = [.int l, .int k] := rfl
    have g7 : line < line + removed ↔ 0 < removed := by omega
    by_cases r0 : 0 < removed <;> by_cases g1 : l ≤ line <;> by_cases g2 : line ≤ l <;> by_cases g3 : line ≤ k <;> by_cases g4 : l < line + removed <;> first
      | (exfalso; omega)
      | (have g5 : ¬ line + removed ≤ l := by omega
         simp [b__law_moved_0, b__law_moved_1, b__law_moved_2, compL, r0, g7, g1, g2, g3, g4, g5, hlk]; done)
      | (have g5 : line + removed ≤ l := by omega
         by_cases g6 : line + removed ≤ k <;> first
           | (exfalso; omega)
           | (simp [b__law_moved_0, b__law_moved_1, b__law_moved_2, b__law_moved_3, b__law_moved_4, compL, r0, g7, g1, g2, g3, g4, g5, g6, hlk, t2, n1, n2, l1, l2] <;> omega))
      | (have g5 : ¬ line + removed ≤ l := by omega
         by_cases g6 : line + removed ≤ k <;> first
           | (exfalso; omega)
           | (simp [b__law_moved_0, b__law_moved_1, b__law_moved_2, b__law_moved_3, b__law_moved_4, compL, r0, g7, g1, g2, g3, g4, g5, g6, hlk, t2, n1, n2, l1, l2] <;> omega))
  rcases h with rfl | ⟨l, rfl, g⟩ | ⟨l, k, c, b, rfl, g⟩
  · unfold m__law_moved
    rw [fnM_ap]
    simp [b__law_moved_0, mv]
  · exact go _ _ _ _ (by omega) rfl rfl (by simp) (by simp)
  · exact go _ _ _ _ (by omega) rfl rfl (by simp) (by simp)
/-- the loop over the spans found -/
theorem due_loop (b : Nat) (S : Sto) (a0 a1 a2 a3 a4 a5 : Option D) : ∀ (ds : List D) (x y : Option D), (∀ d ∈ ds, ShpD d) →
    match firstTop ds with
    | none => Ends (loopM (gnM 6) l__law_due_1 b ds [a0, a1, a2, a3, a4, a5, x, y] S) .nx fun e S' => (∃ x y, e = [a0, a1, a2, a3, a4, a5, x, y]) ∧ S' = S
    | some z => Ends (loopM (gnM 6) l__law_due_1 b ds [a0, a1, a2, a3, a4, a5, x, y] S) (.ret (.tup [.str (cps "line"), .int z])) fun e S' => S' = S
  | [], x, y, _ => by simp [firstTop]
  | d :: ds, x, y, h => by
    rw [loopM_cons]
    have hd := h d List.mem_cons_self
    have ih := fun y => due_loop b S a0 a1 a2 a3 a4 a5 ds (some d) y fun x hx => h x (List.mem_cons_of_mem _ hx)
    rcases hd with rfl | ⟨l, k, c, b', rfl, n1, n2, hl⟩
    · rw [firstTop_non]
      cases hf : firstTop ds with
      | none =>
        rw [hf] at ih
        simp [l__law_due_1]
        exact ih _
      | some z =>
        rw [hf] at ih
        simp [l__law_due_1]
        exact ih _
    · have t2 : cutL [D.int l, .int k, c, b'] none (some 2) = [.int l, .int k] := rfl
      rw [firstTop_tup]
      by_cases c1 : (2147483647 : Int) < l
      · rw [if_pos c1]
        simp [l__law_due_1, t2, l__law_due_0, c1, loopM_cons]
      · rw [if_neg c1]
        by_cases c2 : (2147483647 : Int) < k
        · rw [if_pos c2]
          simp [l__law_due_1, t2, l__law_due_0, c1, c2, loopM_cons]
        · rw [if_neg c2]
          cases hf : firstTop ds with
          | none =>
            rw [hf] at ih
            simp [l__law_due_1, t2, l__law_due_0, c1, c2, loopM_cons]
            exact ih _
          | some z =>
            rw [hf] at ih
            simp [l__law_due_1, t2, l__law_due_0, c1, c2, loopM_cons]
            exact ih _
/-- what both say -/
noncomputable def sayD (xs : List D) (line0 l r a : Int) : D := match firstTop (mvs l r a xs) with
  | none => .tup [.lst (mvs l r a xs), .lst (nums (writeSpans (mvs l r a xs) line0)), .int line0]
  | some z => .tup [.str (cps "line"), .int z]
theorem due_eq {xs : List D} (h : ∀ x ∈ xs, SpanD x) (hn : xs.length ≤ 10000) {line0 l r a : Int} (hl0 : LineOk line0) (hl : LineOk l) (h2 : 0 ≤ r) (h3 : 0 ≤ a) (S : Sto) :
    m__law_due [.lst xs, .int line0, .int l, .int r, .int a] S = .ok (sayD xs line0 l r a) [] S := by
  have cm := fun b => compL_run (fun d => some (mv l r (a - r) d)) (vs := [6]) (g := ctN 6) (t := yesT) (x := callM m__law_moved 4 (consA (varM 6) (consA (varM 2) (consA (varM 3) (consA (varM 4) nilA))))) (b := b) (e := [some (.lst xs), some (.int line0), some (.int l), some (.int r), some (.int a), none, none, none]) (S := S) (w := true) xs [] (by simp; omega) (by
    intro d hd acc
    have nr := spanD_nr (h d hd)
    have e := fun S => law_moved_eq (h d hd) (line := l) (added := a) h2 S
    simp [nr, e])
  have fm : xs.filterMap (fun d => some (mv l r (a - r) d)) = mvs l r a xs := by
    unfold mvs
    rw [← List.filterMap_eq_map]
    rfl
  simp [fm] at cm
  have shp : ∀ x ∈ mvs l r a xs, ShpD x := fun x hx => by
    obtain ⟨d, hd, rfl⟩ := List.mem_map.mp hx
    exact mv_shp (h d hd) _ _ _
  have lo := due_loop S.length (S ++ [Ob.dead]) (some (.lst xs)) (some (.int line0)) (some (.int l)) (some (.int r)) (some (.int a)) (some (.lst (mvs l r a xs))) (mvs l r a xs) none none shp
  have ln : (mvs l r a xs).length ≤ 10000 := by rw [mvs_len]; exact hn
  unfold m__law_due sayD
  rw [fnM_ap]
  cases hf : firstTop (mvs l r a xs) with
  | none =>
    rw [hf] at lo
    have ms := mvs_span h hl.1 h2 h3 (firstTop_ok shp hf)
    obtain ⟨e', S', w1, ⟨x, y, rfl⟩, hS⟩ := lo.inv
    rw [hS] at w1
    have of := fun S => Table_of_eq S (.inl (rfl : D.lst (mvs l r a xs) = _)) ms (by omega) hl0
    have lm := limL_spans ms
    have wl : (writeSpans (mvs l r a xs) line0).length ≤ 16777216 := by have := writeSpans_len ms hl0; omega
    have nd : (mvs l r a xs).length ≤ 16777216 := by omega
    simp [b__law_due_0, cm, b__law_due_1, w1, b__law_due_2, of, ofD, wl, nums_fold, lm]
  | some z =>
    rw [hf] at lo
    obtain ⟨e', S', w1, hS⟩ := lo.inv
    rw [hS] at w1
    simp [b__law_due_0, cm, b__law_due_1, w1]
theorem said_eq {d : D} {xs : List D} {line0 : Int} (t : TabOf d xs line0) (hn : xs.length ≤ 10000) (hl0 : LineOk line0) {l r a : Int} (hl : LineOk l) (h2 : 0 ≤ r ∧ r ≤ 2147483647) (h3 : 0 ≤ a ∧ a ≤ 2147483647) (S : Sto) :
    m__law_said [d, .int l, .int r, .int a] S = .ok (sayD xs line0 l r a) [] S := by
  have nr := t.nr
  unfold m__law_said sayD
  rw [fnM_ap]
  cases hf : firstTop (mvs l r a xs) with
  | none =>
    obtain ⟨m1, m2⟩ := moved_ok t (by omega) hl0 hl h2 h3 hf
    have lim := (tabOf_of m2 hl0).lim S.length
    have sp := fun S => ofD_spans m2 hl0 S
    have wl : (writeSpans (mvs l r a xs) line0).length ≤ 16777216 := by have := writeSpans_len m2 hl0; rw [mvs_len] at this; omega
    have lm := limL_spans m2
    have fl := fun S => (tabOf_of m2 hl0).first S
    simp [b__law_said_0, b__law_said_1, nr, m1, sp, isRef_of, lm]
    simp [ofD, wl, nums_fold, lm]
  | some z =>
    have m1 := fun S => moved_bad t (by omega) hl h2 h3 hf S
    simp [b__law_said_0, nr, m1]
theorem said_line {d d1 : D} (d2 d3 : D) {xs : List D} {line0 : Int} (t : TabOf d xs line0) (h : plainD d1 = true) (hl : d1.lim 0 = true) (hb : isInt 1 2147483647 d1 = false) (n2 : d2.isRef = false) (n3 : d3.isRef = false) (S : Sto) :
    m__law_said [d, d1, d2, d3] S = .ok (.tup [.str (cps "line"), d1]) [] S := by
  have nr := t.nr
  have nr1 := plain_nr h
  have wl := fun S => want_line_eq h hl S
  simp only [hb] at wl
  have m1 : ∀ S, m_moved [d, d1, d2, d3] S = .exc "BadLine" [("line", d1)] [] S := fun S => by
    unfold m_moved
    rw [fnM_ap]
    simp [b_moved_0, nr, nr1, wl, hl]
  have l1 : d1.lim S.length = true := lim_mono (Nat.zero_le _) _ hl
  unfold m__law_said
  rw [fnM_ap]
  simp [b__law_said_0, nr, m1, nr1, n2, n3, l1]
theorem said_count {d d2 : D} (d3 : D) {xs : List D} {line0 : Int} (t : TabOf d xs line0) (h : plainD d2 = true) (hl : d2.lim 0 = true) (hb : isInt 0 2147483647 d2 = false) (n3 : d3.isRef = false) (S : Sto) :
    m__law_said [d, .int 1, d2, d3] S = .ok (.tup [.str (cps "count"), d2]) [] S := by
  have nr := t.nr
  have nr1 := plain_nr h
  have wl := fun S => want_line_eq (d := .int 1) rfl (by simp) S
  have i1 : isInt 1 2147483647 (.int 1) = true := by simp [isInt]
  simp only [i1] at wl
  have i2 := fun S => is_integer_eq h 0 2147483647 S
  simp only [hb] at i2
  have m1 : ∀ S, m_moved [d, .int 1, d2, d3] S = .exc "BadCount" [("many", d2)] [] S := fun S => by
    unfold m_moved
    rw [fnM_ap]
    simp [b_moved_0, b_moved_1, l_moved_0, loopM_cons, nr, nr1, wl, hl, i2, n3]
  have l1 : d2.lim S.length = true := lim_mono (Nat.zero_le _) _ hl
  unfold m__law_said
  rw [fnM_ap]
  simp [b__law_said_0, nr, m1, nr1, n3, l1]
theorem said_count2 {d d3 : D} {xs : List D} {line0 : Int} (t : TabOf d xs line0) (h : plainD d3 = true) (hl : d3.lim 0 = true) (hb : isInt 0 2147483647 d3 = false) (S : Sto) :
    m__law_said [d, .int 1, .int 2147483647, d3] S = .ok (.tup [.str (cps "count"), d3]) [] S := by
  have nr := t.nr
  have nr1 := plain_nr h
  have wl := fun S => want_line_eq (d := .int 1) rfl (by simp) S
  have i1 : isInt 1 2147483647 (.int 1) = true := by simp [isInt]
  simp only [i1] at wl
  have i2 := fun S => is_integer_eq h 0 2147483647 S
  simp only [hb] at i2
  have i3 := fun S => is_integer_eq (d := .int 2147483647) rfl 0 2147483647 S
  have j3 : isInt 0 2147483647 (.int 2147483647) = true := by simp [isInt]
  rw [j3] at i3
  have m1 : ∀ S, m_moved [d, .int 1, .int 2147483647, d3] S = .exc "BadCount" [("many", d3)] [] S := fun S => by
    unfold m_moved
    rw [fnM_ap]
    simp [b_moved_0, b_moved_1, l_moved_0, loopM_cons, nr, nr1, wl, hl, i2, i3]
  have l1 : d3.lim S.length = true := lim_mono (Nat.zero_le _) _ hl
  unfold m__law_said
  rw [fnM_ap]
  simp [b__law_said_0, nr, m1, nr1, l1]
theorem mv_dat {d : D} (h : SpanD d) (l r b : Int) : dat 1 (mv l r b d) = true := by
  rcases h with rfl | ⟨l, rfl, _⟩ | ⟨l, k, c, bb, rfl, _⟩
  · simp [mv]
  · simp only [mv]; split <;> simp
  · simp only [mv]; split <;> simp
theorem say_ne {xs : List D} (h : ∀ x ∈ xs, SpanD x) (line0 l r a : Int) (S : Sto) : neS S (sayD xs line0 l r a) (sayD xs line0 l r a) = some false := by
  have d2 : dat 2 (.lst (mvs l r a xs)) = true := by
    rw [dat_lst, List.all_eq_true]
    intro y hy
    obtain ⟨d, hd, rfl⟩ := List.mem_map.mp hy
    exact mv_dat (h d hd) _ _ _
  have d1 : ∀ bs : List Nat, dat 2 (.lst (nums bs)) = true := fun bs => by
    rw [dat_lst, List.all_eq_true]
    intro y hy
    obtain ⟨k, _, rfl⟩ := List.mem_map.mp hy
    simp
  unfold sayD
  cases firstTop (mvs l r a xs) with
  | none => exact ne_same (n := 3) (by simp only [dat_tup, List.all_cons, List.all_nil, d1, d2, dat_int]; rfl) (by omega) S
  | some z => exact ne_same (n := 1) (by simp only [dat_tup, List.all_cons, List.all_nil, dat_cps, dat_int]; rfl) (by omega) S
/-- the last lines -/
def lastI (d : D) : Option D := match d with
  | .tup [_, .int k, _, _] => some (.int k)
  | _ => none
theorem intsOf_all {xs : List D} (h : ∀ d ∈ xs, ∃ z : Int, d = .int z) : ∃ zs, intsOf xs = some zs := by
  induction xs with
  | nil => exact ⟨[], rfl⟩
  | cons x xs ih =>
    obtain ⟨z, rfl⟩ := h x List.mem_cons_self
    obtain ⟨zs, e⟩ := ih fun d hd => h d (List.mem_cons_of_mem _ hd)
    exact ⟨z :: zs, by rw [intsOf, e]; rfl⟩
theorem foldl_max (zs : List Int) : ∀ n : Int, n ≤ zs.foldl max n := by
  induction zs with
  | nil => intro n; exact Int.le_refl n
  | cons z zs ih => intro n; exact Int.le_trans (Int.le_max_left n z) (ih _)
def EdsD (d : D) : Prop := ∃ ds, d = .lst ds ∧ ds.length ≤ 4 ∧ ∀ d ∈ ds, EditD d
theorem idle_sp (S : Sto) (i : Nat) (p : Int × Int) (hi : i < S.length) {xs : List D} (h : ∀ x ∈ xs, SpanD x) (hn : xs.length ≤ 10000) : Gives (m__law_idle [.ref i, .lst xs] (S.set i (wellOb p))) S i EdsD := by
  have cm := fun T b => compL_run lastI (vs := [4]) (g := ctN 4) (t := cmpT notS (rawM 4) (cM .non)) (x := op2 idxS (rawM 4) (cM (.int 1))) (b := b) (e := [some (.ref i), some (.lst xs), none, none, none]) (S := T) (w := true) xs [] (by simp; omega) (by
    intro d hd acc
    rcases h d hd with rfl | ⟨l, rfl, _⟩ | ⟨l, k, c, bb, rfl, _⟩ <;> simp [lastI])
  have isI : ∀ d ∈ xs.filterMap lastI, ∃ z : Int, d = .int z := by
    intro d hd
    obtain ⟨e, he, h2⟩ := List.mem_filterMap.mp hd
    rcases h e he with rfl | ⟨l, rfl, _⟩ | ⟨l, k, c, bb, rfl, _⟩ <;> simp [lastI] at h2 <;> exact ⟨_, h2.symm⟩
  obtain ⟨zs, hz⟩ := intsOf_all isI
  have ln : (xs.filterMap lastI).length ≤ 10000 := Nat.le_trans (List.length_filterMap_le _ _) hn
  generalize xs.filterMap lastI = ls at *
  have mx : ∀ S, maxS S [.lst (.int 1 :: ls)] = some (.int (zs.foldl max 1)) := fun S => maxS_lst S _ (by rw [intsOf, hz]; rfl)
  have f1 := foldl_max zs 1
  generalize zs.foldl max 1 = last at *
  have a1 := dr_lo p (many := 99) (by omega)
  have a2 := dr_hi p (many := 99) (by omega)
  have l1 : 1 + ls.length ≤ 16777216 := by omega
  have cm := cm (S.set i (wellOb p)) S.length
  simp at cm
  unfold m__law_idle
  rw [fnM_ap]
  by_cases c : last < 2147483647
  · have b1 := dr_lo (dw p 99) (many := 4) (by omega)
    have b2 := dr_hi (dw p 99) (many := 4) (by omega)
    have b3 := dr_lo (dw (dw p 99) 4) (many := 4) (by omega)
    have b4 := dr_hi (dw (dw p 99) 4) (many := 4) (by omega)
    simp [b__law_idle_0, b__law_idle_1, b__law_idle_2, b__law_idle_3, cm, hi, mx, c, l1]
    refine ⟨_, rfl, by simp, fun d hd => ?_⟩
    simp only [List.mem_cons, List.not_mem_nil, or_false] at hd
    rcases hd with rfl | rfl | rfl | rfl <;> exact ⟨_, _, _, rfl, ⟨by omega, by omega⟩, ⟨by omega, by omega⟩, by omega, by omega⟩
  · simp [b__law_idle_0, b__law_idle_1, b__law_idle_2, b__law_idle_3, cm, hi, mx, c, l1]
    refine ⟨_, rfl, by simp, fun d hd => ?_⟩
    simp only [List.mem_cons, List.not_mem_nil, or_false] at hd
    rcases hd with rfl | rfl <;> exact ⟨_, _, _, rfl, ⟨by omega, by omega⟩, ⟨by omega, by omega⟩, by omega, by omega⟩
theorem idle_app (S : Sto) (p : Int × Int) (l : Sto) {xs : List D} (h : ∀ x ∈ xs, SpanD x) (hn : xs.length ≤ 10000) : ∃ ds q, m__law_idle [.ref S.length, .lst xs] (S ++ wellOb p :: l) = .ok (.lst ds) [] (S ++ wellOb q :: l) ∧ ds.length ≤ 4 ∧ ∀ d ∈ ds, EditD d := by
  obtain ⟨d, q, e, ds, rfl, h2⟩ := give_app (args := fun i => [.ref i, .lst xs]) (fun T i p hi => idle_sp T i p hi h hn) S p l
  exact ⟨ds, q, e, h2⟩
theorem turn (z : Int) (a0 a1 a2 a3 a4 a5 a6 a7 a8 a9 a10 a11 : Option D) (S : Sto) : Goes ((gnM 1 0 (.int z) [a0, a1, a2, a3, a4, a5, a6, a7, a8, a9, a10, a11] S).bnd fun _ e S => l_law_1 0 e S) fun e _ => e.length = 12 := by
  obtain ⟨line, q1, e1, hln⟩ := line_app S (dw (z, 0) 40) [] (1 + dr (z, 0) 40)
  obtain ⟨xs, q2, e2, hx, hxl⟩ := spans_app S q1 [] 12 (by omega) (by omega)
  have of := fun S => Table_of_eq S (.inl (rfl : D.lst xs = _)) hx (by omega) hln
  have tO := tabOf_of hx hln
  simp at e1 e2
  -- the table
  obtain ⟨t, q3, tt, e3⟩ : ∃ t q3, TabOf t xs line ∧ ∀ a6 a7 a8 a9 a10 a11, l_law_1_4 0 [a0, some (.int z), some (.ref S.length), some (.int line), some (.lst xs), some (ofD xs line), a6, a7, a8, a9, a10, a11] (S ++ [wellOb q2]) = l_law_1_5 0 [a0, some (.int z), some (.ref S.length), some (.int line), some (.lst xs), some t, a6, a7, a8, a9, a10, a11] (S ++ [wellOb q3]) := by
    by_cases c : dr q2 2 = 0
    · obtain ⟨rs, q3, e4, hrs, hsp⟩ := written_app S (dw q2 2) [] hx (by omega) hln
      have rl := rows_len hrs.2
      rw [hsp] at rl
      obtain ⟨d2, t2, tab2⟩ := rows_tab hrs (by omega) hln
      rw [hsp] at tab2
      have t3 := fun e => t2 (S ++ [wellOb q3]) e
      simp at t3 e4
      refine ⟨d2, q3, tab2, fun a6 a7 a8 a9 a10 a11 => ?_⟩
      simp [l_law_1_4, draw_app, c, e4, t3]
    · refine ⟨ofD xs line, dw q2 2, tO, fun a6 a7 a8 a9 a10 a11 => ?_⟩
      simp [l_law_1_4, draw_app, c]
  -- the edits
  obtain ⟨es, q4, he, hel, cm⟩ := compL_well EditD (vs := [11]) (g := ctN 11) (t := yesT) (x := callM m__law_edit 2 (consA (varM 2) (consA (varM 4) nilA))) (b := 0) (e := [a0, some (.int z), some (.ref S.length), some (.int line), some (.lst xs), some t, a6, a7, a8, a9, a10, none]) S [] (w := true) [.int 0, .int 1, .int 2] [] q3 (by simp) (by
    intro d hd q acc
    obtain ⟨v, q', e1, h1⟩ := edit_app S q [.lst true acc] hx (by omega)
    refine ⟨v, q', h1, ?_⟩
    obtain ⟨l, r, a, rfl, _⟩ := h1
    simp [e1])
  obtain ⟨ds, q5, e5, hd1, hd2⟩ := idle_app S q4 [.dead] hx (by omega)
  simp at cm e5 hel
  have c1 : es.length + ds.length ≤ 16777216 := by omega
  have r3 : rngI 0 3 = some [.int 0, .int 1, .int 2] := rfl
  obtain ⟨e', S', w1, ⟨x8, x9, x10, rfl⟩, hS⟩ := loop_goes (fun e S' => (∃ x8 x9 x10, e = [a0, some (.int z), some (.ref S.length), some (.int line), some (.lst xs), some t, a6, a7, x8, x9, x10, a11]) ∧ S' = S ++ [wellOb q5, .dead]) (g := gqM 3 (gsCons (gnM 8) (gsCons (gnM 9) (gsCons (gnM 10) (gsNil))))) (body := l_law_0) (b := 0) (es ++ ds) (by
    rintro d hd e S' ⟨⟨x8, x9, x10, rfl⟩, rfl⟩
    have hdE : EditD d := (List.mem_append.mp hd).elim (he d) (hd2 d)
    obtain ⟨l, r, a, rfl, k1, k2, k3⟩ := hdE
    have nr := tt.nr
    have s1 := fun S => said_eq tt (by omega) hln k1 k2 k3 S
    have s2 := fun S => due_eq hx (by omega) hln k1 k2.1 k3.1 S
    have s3 := fun S => say_ne hx line l r a S
    simp [l_law_0, nr, s1, s2, s3]) [a0, some (.int z), some (.ref S.length), some (.int line), some (.lst xs), some t, a6, a7, a8, a9, a10, a11] (S ++ [wellOb q5, .dead]) ⟨⟨_, _, _, rfl⟩, rfl⟩
  rw [hS] at w1
  obtain ⟨d1, hd1, q6, e6⟩ := one_app (r := _) (S := S) (p := q5) (l := [.dead]) (xs := [.int 0, .int (-1), .int 2147483648, .non, .bl true, .str (cps "1"), .lst []]) rfl (by simp) (by simp) (by simp)
  obtain ⟨d2, hd2, q7, e7⟩ := one_app (r := _) (S := S) (p := q6) (l := [.dead]) (xs := [.int (-1), .int 2147483648, .non, .bl true, .str (cps "1"), .edi]) rfl (by simp) (by simp) (by simp)
  have f1 : plainD d1 = true ∧ d1.lim 0 = true ∧ isInt 1 2147483647 d1 = false ∧ okD 15 d1 = true := by
    simp only [List.mem_cons, List.not_mem_nil, or_false] at hd1
    rcases hd1 with rfl | rfl | rfl | rfl | rfl | rfl | rfl <;> exact ⟨rfl, by simp, by simp [isInt], by simp⟩
  have f2 : plainD d2 = true ∧ d2.lim 0 = true ∧ isInt 0 2147483647 d2 = false ∧ okD 15 d2 = true := by
    simp only [List.mem_cons, List.not_mem_nil, or_false] at hd2
    rcases hd2 with rfl | rfl | rfl | rfl | rfl | rfl <;> exact ⟨rfl, by simp, by simp [isInt], by simp⟩
  clear hd1 hd2
  have m1 := plain_nr f1.1
  have m2 := plain_nr f2.1
  have nn : ∀ (s : String) (d : D), okD 15 d = true → ∀ S, neS S (.tup [.str (cps s), d]) (.tup [.str (cps s), d]) = some false := fun s d hd S => ne_self S (by
    rw [okD_tup, okL_cons, okL_cons, okL_nil, hd, okD_str, cps_ok]; rfl)
  have n1 := nn "line" d1 f1.2.2.2
  have n2 := nn "count" d2 f2.2.2.2
  have s1 := fun S => said_line d2 d2 tt f1.1 f1.2.1 f1.2.2.1 m2 m2 S
  have s2 := fun S => said_count d1 tt f2.1 f2.2.1 f2.2.2.1 m1 S
  have s3 := fun S => said_count2 tt f2.1 f2.2.1 f2.2.2.1 S
  have nr := tt.nr
  obtain ⟨f, lk, cls⟩ := tt.cls
  have sp := tt.spans
  have ne := fun S => ne_same (spans_dat hx) (by omega) S
  simp [l_law_1, well_eq, draw_app, l_law_1_1, e1, l_law_1_2, e2, l_law_1_3, of, e3, l_law_1_5, r3, cm, e5, c1, w1, l_law_1_6, e6, l_law_1_7, e7, l_law_1_8, l_law_1_9, nr, m1, m2, s1, s2, s3, n1, n2, cls, lk, sp, ne]
theorem law_holds (ns : List Int) (h : ns.length ≤ 63) : ∃ e S', m_law [.frz (ns.map D.int)] [] = .ok (.bl true) e S' := by
  unfold m_law
  rw [fnM_ap]
  have k : min 6 ns.length ≤ 16777215 := by omega
  have t4 : cutL (ns.map D.int) none (some 6) = (ns.map D.int).take 6 := cutL_to _ 6
  obtain ⟨e', S', w1, h1⟩ := loop_goes (fun e _ => e.length = 12) (g := gnM 1) (body := l_law_1) (b := 0) ((ns.map D.int).take 6 ++ [.int 0]) (by
    intro d hd e S he
    obtain ⟨z, rfl⟩ : ∃ z, d = .int z := by
      rcases List.mem_append.mp hd with hd | hd
      · obtain ⟨z, -, rfl⟩ := List.mem_map.mp (List.mem_of_mem_take hd)
        exact ⟨z, rfl⟩
      · exact ⟨0, by simpa using hd⟩
    match e, he with
    | [a0, a1, a2, a3, a4, a5, a6, a7, a8, a9, a10, a11], _ => exact turn z a0 a1 a2 a3 a4 a5 a6 a7 a8 a9 a10 a11 S) [some (.frz (ns.map D.int)), none, none, none, none, none, none, none, none, none, none, none] [] rfl
  simp [b_law_0, b_law_1, t4, k, w1]
end Mir.K33
end

/-! K33_E -/
section
set_option Elab.async false
set_option linter.all false
open PySem PySem.W PyProof.Rows in
set_option maxRecDepth 100000 in
set_option maxHeartbeats 0 in
theorem PySem.Challenge.cw_codespans_k33_source_edits_holds : PySem.Challenge.rw_codespans_k33_source_edits.Holds := by
  w_on; o_law; k_head; (case hw => w_witness2)
  k_fill
  refine Mir.law_end (l := PySem.Challenge.rw_codespans_k33_source_edits) (k := 14) (x := "_law_script") (m := Mir.K33.m_law) rfl rfl ⟨rfl, by decide, by decide⟩ (fun w h Y => PySem.W.kIn_of Y) ?F (fun ns h _ => Mir.K33.law_holds ns h)
  case F =>
    intro w mg fa h KX G hmg
    refine' Mir.K33.all_mk KX G hmg ?g_BadTable ?g_BadLine ?g_BadSpan ?g_BadCount ?g_Cursor ?g_Entry ?g_Table ?a0 ?l0 ?c0 ?k0 ?a1 ?l1 ?c1 ?k1 ?a2 ?l2 ?c2 ?k2 ?a3 ?l3 ?c3 ?k3 ?a4 ?l4 ?c4 ?k4 ?a5 ?l5 ?c5 ?k5 ?a6 ?l6 ?c6 ?k6 ?a7 ?l7 ?c7 ?k7 ?a8 ?l8 ?c8 ?k8 ?n_Cursor_source ?pg_Cursor ?hd_Cursor ?po_Cursor ?sa_Cursor ?n_Cursor_at ?a9 ?i9 ?mk9 ?kc9 ?l9 ?c9 ?k9 ?n_Entry_at ?pg_Entry ?hd_Entry ?po_Entry ?sa_Entry ?n_Entry_steps ?n_Entry_form ?n_Entry_span ?n_Entry_end ?a10 ?i10 ?mk10 ?kc10 ?l10 ?c10 ?k10 ?a11 ?i11 ?l11 ?c11 ?k11 ?a12 ?i12 ?l12 ?c12 ?k12 ?a13 ?i13 ?l13 ?c13 ?k13 ?a14 ?l14 ?c14 ?k14 ?a15 ?l15 ?c15 ?k15 ?a16 ?l16 ?c16 ?k16 ?a17 ?l17 ?c17 ?k17 ?a18 ?l18 ?c18 ?k18 ?a19 ?l19 ?c19 ?k19 ?n_Table_held_data ?pg_Table ?hd_Table ?po_Table ?sa_Table ?n_Table_held_line ?n_Table_read ?n_Table_held_spans ?a20 ?i20 ?mk20 ?kc20 ?l20 ?c20 ?k20 ?a21 ?l21 ?c21 ?k21 ?a22 ?l22 ?c22 ?k22 ?a23 ?l23 ?c23 ?k23 ?a24 ?l24 ?c24 ?k24 ?a25 ?l25 ?c25 ?k25 ?a26 ?l26 ?c26 ?k26 ?a27 ?l27 ?c27 ?k27 ?a28 ?l28 ?c28 ?k28 ?rd29 ?ga29 ?fc29 ?rc29 ?l29 ?c29 ?k29 ?a30 ?l30 ?c30 ?k30 ?a31 ?l31 ?c31 ?k31 ?a32 ?l32 ?c32 ?k32 ?a33 ?l33 ?c33 ?k33 ?a34 ?l34 ?c34 ?k34 ?a35 ?l35 ?c35 ?k35 ?a36 ?l36 ?c36 ?k36 ?a37 ?l37 ?c37 ?k37 ?a38 ?gt38 ?tk38 ?rc38 ?l38 ?c38 ?k38 ?a39 ?l39 ?c39 ?k39 ?a40 ?l40 ?c40 ?k40 ?a41 ?i41 ?l41 ?c41 ?k41 ?a42 ?l42 ?c42 ?k42 ?a43 ?gt43 ?tk43 ?rc43 ?l43 ?c43 ?k43 ?ve_BadCount ?vc_BadCount ?vt_BadCount ?vs_BadCount_BadCount ?vs_BadSpan_BadCount ?vs_BadLine_BadCount ?vs_BadTable_BadCount ?ya_BadCount ?yg_BadCount ?ye_BadCount ?yd_BadCount ?yn_BadCount_many ?ve_BadLine ?vc_BadLine ?vt_BadLine ?vs_BadCount_BadLine ?vs_BadSpan_BadLine ?vs_BadLine_BadLine ?vs_BadTable_BadLine ?ya_BadLine ?yg_BadLine ?ye_BadLine ?yd_BadLine ?yn_BadLine_line ?a44 ?l44 ?c44 ?k44 ?a45 ?l45 ?c45 ?k45 ?a46 ?l46 ?c46 ?k46 ?a47 ?l47 ?c47 ?k47 ?ya_BadTable ?yg_BadTable ?ye_BadTable ?yd_BadTable ?yn_BadTable_at ?yn_BadTable_why ?xl48 ?xv48 ?xs48 ?xe48 ?xt48 ?xk48 ?a48 ?t48 ?l48 ?c48 ?k48 ?xl49 ?xv49 ?xs49 ?xe49 ?xt49 ?xk49 ?a49 ?t49 ?l49 ?c49 ?k49 ?ya_BadSpan ?yg_BadSpan ?ye_BadSpan ?yd_BadSpan ?yn_BadSpan_at ?xl50 ?xv50 ?xs50 ?xe50 ?xt50 ?xk50 ?a50 ?t50 ?l50 ?c50 ?k50 ?xl51 ?xv51 ?xs51 ?xe51 ?xt51 ?xk51 ?a51 ?t51 ?l51 ?c51 ?k51 ?z_NoneType ?z_all ?z_bool ?z_bytes ?z_dict ?z_enumerate ?z_int ?z_isinstance ?z_len ?z_list ?z_max ?z_min ?z_range ?z_str ?z_tuple ?y_MOST ?y_MOST_GROUPS
    (case g_BadTable => first | k_is | rfl | decide +kernel)
    (case g_BadLine => first | k_is | rfl | decide +kernel)
    (case g_BadSpan => first | k_is | rfl | decide +kernel)
    (case g_BadCount => first | k_is | rfl | decide +kernel)
    (case g_Cursor => first | k_is | rfl | decide +kernel)
    (case g_Entry => first | k_is | rfl | decide +kernel)
    (case g_Table => first | k_is | rfl | decide +kernel)
    (case a0 => first | k_is | rfl | decide +kernel)
    (case l0 => first | k_is | rfl | decide +kernel)
    (case c0 => first | k_is | rfl | decide +kernel)
    (case k0 => first | k_is | rfl | decide +kernel)
    (case a1 => first | k_is | rfl | decide +kernel)
    (case l1 => first | k_is | rfl | decide +kernel)
    (case c1 => first | k_is | rfl | decide +kernel)
    (case k1 => first | k_is | rfl | decide +kernel)
    (case a2 => first | k_is | rfl | decide +kernel)
    (case l2 => first | k_is | rfl | decide +kernel)
    (case c2 => first | k_is | rfl | decide +kernel)
    (case k2 => first | k_is | rfl | decide +kernel)
    (case a3 => first | k_is | rfl | decide +kernel)
    (case l3 => first | k_is | rfl | decide +kernel)
    (case c3 => first | k_is | rfl | decide +kernel)
    (case k3 => first | k_is | rfl | decide +kernel)
    (case a4 => first | k_is | rfl | decide +kernel)
    (case l4 => first | k_is | rfl | decide +kernel)
    (case c4 => first | k_is | rfl | decide +kernel)
    (case k4 => first | k_is | rfl | decide +kernel)
    (case a5 => first | k_is | rfl | decide +kernel)
    (case l5 => first | k_is | rfl | decide +kernel)
    (case c5 => first | k_is | rfl | decide +kernel)
    (case k5 => first | k_is | rfl | decide +kernel)
    (case a6 => first | k_is | rfl | decide +kernel)
    (case l6 => first | k_is | rfl | decide +kernel)
    (case c6 => first | k_is | rfl | decide +kernel)
    (case k6 => first | k_is | rfl | decide +kernel)
    (case a7 => first | k_is | rfl | decide +kernel)
    (case l7 => first | k_is | rfl | decide +kernel)
    (case c7 => first | k_is | rfl | decide +kernel)
    (case k7 => first | k_is | rfl | decide +kernel)
    (case a8 => first | k_is | rfl | decide +kernel)
    (case l8 => first | k_is | rfl | decide +kernel)
    (case c8 => first | k_is | rfl | decide +kernel)
    (case k8 => first | k_is | rfl | decide +kernel)
    (case n_Cursor_source => first | k_is | rfl | decide +kernel)
    (case pg_Cursor => first | k_is | rfl | decide +kernel)
    (case hd_Cursor => first | k_is | rfl | decide +kernel)
    (case po_Cursor => first | k_is | rfl | decide +kernel)
    (case sa_Cursor => first | k_is | rfl | decide +kernel)
    (case n_Cursor_at => first | k_is | rfl | decide +kernel)
    (case a9 => first | k_is | rfl | decide +kernel)
    (case i9 => first | k_is | rfl | decide +kernel)
    (case mk9 => first | k_is | rfl | decide +kernel)
    (case kc9 => first | k_is | rfl | decide +kernel)
    (case l9 => first | k_is | rfl | decide +kernel)
    (case c9 => first | k_is | rfl | decide +kernel)
    (case k9 => first | k_is | rfl | decide +kernel)
    (case n_Entry_at => first | k_is | rfl | decide +kernel)
    (case pg_Entry => first | k_is | rfl | decide +kernel)
    (case hd_Entry => first | k_is | rfl | decide +kernel)
    (case po_Entry => first | k_is | rfl | decide +kernel)
    (case sa_Entry => first | k_is | rfl | decide +kernel)
    (case n_Entry_steps => first | k_is | rfl | decide +kernel)
    (case n_Entry_form => first | k_is | rfl | decide +kernel)
    (case n_Entry_span => first | k_is | rfl | decide +kernel)
    (case n_Entry_end => first | k_is | rfl | decide +kernel)
    (case a10 => first | k_is | rfl | decide +kernel)
    (case i10 => first | k_is | rfl | decide +kernel)
    (case mk10 => first | k_is | rfl | decide +kernel)
    (case kc10 => first | k_is | rfl | decide +kernel)
    (case l10 => first | k_is | rfl | decide +kernel)
    (case c10 => first | k_is | rfl | decide +kernel)
    (case k10 => first | k_is | rfl | decide +kernel)
    (case a11 => first | k_is | rfl | decide +kernel)
    (case i11 => first | k_is | rfl | decide +kernel)
    (case l11 => first | k_is | rfl | decide +kernel)
    (case c11 => first | k_is | rfl | decide +kernel)
    (case k11 => first | k_is | rfl | decide +kernel)
    (case a12 => first | k_is | rfl | decide +kernel)
    (case i12 => first | k_is | rfl | decide +kernel)
    (case l12 => first | k_is | rfl | decide +kernel)
    (case c12 => first | k_is | rfl | decide +kernel)
    (case k12 => first | k_is | rfl | decide +kernel)
    (case a13 => first | k_is | rfl | decide +kernel)
    (case i13 => first | k_is | rfl | decide +kernel)
    (case l13 => first | k_is | rfl | decide +kernel)
    (case c13 => first | k_is | rfl | decide +kernel)
    (case k13 => first | k_is | rfl | decide +kernel)
    (case a14 => first | k_is | rfl | decide +kernel)
    (case l14 => first | k_is | rfl | decide +kernel)
    (case c14 => first | k_is | rfl | decide +kernel)
    (case k14 => first | k_is | rfl | decide +kernel)
    (case a15 => first | k_is | rfl | decide +kernel)
    (case l15 => first | k_is | rfl | decide +kernel)
    (case c15 => first | k_is | rfl | decide +kernel)
    (case k15 => first | k_is | rfl | decide +kernel)
    (case a16 => first | k_is | rfl | decide +kernel)
    (case l16 => first | k_is | rfl | decide +kernel)
    (case c16 => first | k_is | rfl | decide +kernel)
    (case k16 => first | k_is | rfl | decide +kernel)
    (case a17 => first | k_is | rfl | decide +kernel)
    (case l17 => first | k_is | rfl | decide +kernel)
    (case c17 => first | k_is | rfl | decide +kernel)
    (case k17 => first | k_is | rfl | decide +kernel)
    (case a18 => first | k_is | rfl | decide +kernel)
    (case l18 => first | k_is | rfl | decide +kernel)
    (case c18 => first | k_is | rfl | decide +kernel)
    (case k18 => first | k_is | rfl | decide +kernel)
    (case a19 => first | k_is | rfl | decide +kernel)
    (case l19 => first | k_is | rfl | decide +kernel)
    (case c19 => first | k_is | rfl | decide +kernel)
    (case k19 => first | k_is | rfl | decide +kernel)
    (case n_Table_held_data => first | k_is | rfl | decide +kernel)
    (case pg_Table => first | k_is | rfl | decide +kernel)
    (case hd_Table => first | k_is | rfl | decide +kernel)
    (case po_Table => first | k_is | rfl | decide +kernel)
    (case sa_Table => first | k_is | rfl | decide +kernel)
    (case n_Table_held_line => first | k_is | rfl | decide +kernel)
    (case n_Table_read => first | k_is | rfl | decide +kernel)
    (case n_Table_held_spans => first | k_is | rfl | decide +kernel)
    (case a20 => first | k_is | rfl | decide +kernel)
    (case i20 => first | k_is | rfl | decide +kernel)
    (case mk20 => first | k_is | rfl | decide +kernel)
    (case kc20 => first | k_is | rfl | decide +kernel)
    (case l20 => first | k_is | rfl | decide +kernel)
    (case c20 => first | k_is | rfl | decide +kernel)
    (case k20 => first | k_is | rfl | decide +kernel)
    (case a21 => first | k_is | rfl | decide +kernel)
    (case l21 => first | k_is | rfl | decide +kernel)
    (case c21 => first | k_is | rfl | decide +kernel)
    (case k21 => first | k_is | rfl | decide +kernel)
    (case a22 => first | k_is | rfl | decide +kernel)
    (case l22 => first | k_is | rfl | decide +kernel)
    (case c22 => first | k_is | rfl | decide +kernel)
    (case k22 => first | k_is | rfl | decide +kernel)
    (case a23 => first | k_is | rfl | decide +kernel)
    (case l23 => first | k_is | rfl | decide +kernel)
    (case c23 => first | k_is | rfl | decide +kernel)
    (case k23 => first | k_is | rfl | decide +kernel)
    (case a24 => first | k_is | rfl | decide +kernel)
    (case l24 => first | k_is | rfl | decide +kernel)
    (case c24 => first | k_is | rfl | decide +kernel)
    (case k24 => first | k_is | rfl | decide +kernel)
    (case a25 => first | k_is | rfl | decide +kernel)
    (case l25 => first | k_is | rfl | decide +kernel)
    (case c25 => first | k_is | rfl | decide +kernel)
    (case k25 => first | k_is | rfl | decide +kernel)
    (case a26 => first | k_is | rfl | decide +kernel)
    (case l26 => first | k_is | rfl | decide +kernel)
    (case c26 => first | k_is | rfl | decide +kernel)
    (case k26 => first | k_is | rfl | decide +kernel)
    (case a27 => first | k_is | rfl | decide +kernel)
    (case l27 => first | k_is | rfl | decide +kernel)
    (case c27 => first | k_is | rfl | decide +kernel)
    (case k27 => first | k_is | rfl | decide +kernel)
    (case a28 => first | k_is | rfl | decide +kernel)
    (case l28 => first | k_is | rfl | decide +kernel)
    (case c28 => first | k_is | rfl | decide +kernel)
    (case k28 => first | k_is | rfl | decide +kernel)
    (case rd29 => first | k_is | rfl | decide +kernel)
    (case ga29 => first | k_is | rfl | decide +kernel)
    (case fc29 => first | k_is | rfl | decide +kernel)
    (case rc29 => first | k_is | rfl | decide +kernel)
    (case l29 => first | k_is | rfl | decide +kernel)
    (case c29 => first | k_is | rfl | decide +kernel)
    (case k29 => first | k_is | rfl | decide +kernel)
    (case a30 => first | k_is | rfl | decide +kernel)
    (case l30 => first | k_is | rfl | decide +kernel)
    (case c30 => first | k_is | rfl | decide +kernel)
    (case k30 => first | k_is | rfl | decide +kernel)
    (case a31 => first | k_is | rfl | decide +kernel)
    (case l31 => first | k_is | rfl | decide +kernel)
    (case c31 => first | k_is | rfl | decide +kernel)
    (case k31 => first | k_is | rfl | decide +kernel)
    (case a32 => first | k_is | rfl | decide +kernel)
    (case l32 => first | k_is | rfl | decide +kernel)
    (case c32 => first | k_is | rfl | decide +kernel)
    (case k32 => first | k_is | rfl | decide +kernel)
    (case a33 => first | k_is | rfl | decide +kernel)
    (case l33 => first | k_is | rfl | decide +kernel)
    (case c33 => first | k_is | rfl | decide +kernel)
    (case k33 => first | k_is | rfl | decide +kernel)
    (case a34 => first | k_is | rfl | decide +kernel)
    (case l34 => first | k_is | rfl | decide +kernel)
    (case c34 => first | k_is | rfl | decide +kernel)
    (case k34 => first | k_is | rfl | decide +kernel)
    (case a35 => first | k_is | rfl | decide +kernel)
    (case l35 => first | k_is | rfl | decide +kernel)
    (case c35 => first | k_is | rfl | decide +kernel)
    (case k35 => first | k_is | rfl | decide +kernel)
    (case a36 => first | k_is | rfl | decide +kernel)
    (case l36 => first | k_is | rfl | decide +kernel)
    (case c36 => first | k_is | rfl | decide +kernel)
    (case k36 => first | k_is | rfl | decide +kernel)
    (case a37 => first | k_is | rfl | decide +kernel)
    (case l37 => first | k_is | rfl | decide +kernel)
    (case c37 => first | k_is | rfl | decide +kernel)
    (case k37 => first | k_is | rfl | decide +kernel)
    (case a38 => first | k_is | rfl | decide +kernel)
    (case gt38 => first | k_is | rfl | decide +kernel)
    (case tk38 => first | k_is | rfl | decide +kernel)
    (case rc38 => first | k_is | rfl | decide +kernel)
    (case l38 => first | k_is | rfl | decide +kernel)
    (case c38 => first | k_is | rfl | decide +kernel)
    (case k38 => first | k_is | rfl | decide +kernel)
    (case a39 => first | k_is | rfl | decide +kernel)
    (case l39 => first | k_is | rfl | decide +kernel)
    (case c39 => first | k_is | rfl | decide +kernel)
    (case k39 => first | k_is | rfl | decide +kernel)
    (case a40 => first | k_is | rfl | decide +kernel)
    (case l40 => first | k_is | rfl | decide +kernel)
    (case c40 => first | k_is | rfl | decide +kernel)
    (case k40 => first | k_is | rfl | decide +kernel)
    (case a41 => first | k_is | rfl | decide +kernel)
    (case i41 => first | k_is | rfl | decide +kernel)
    (case l41 => first | k_is | rfl | decide +kernel)
    (case c41 => first | k_is | rfl | decide +kernel)
    (case k41 => first | k_is | rfl | decide +kernel)
    (case a42 => first | k_is | rfl | decide +kernel)
    (case l42 => first | k_is | rfl | decide +kernel)
    (case c42 => first | k_is | rfl | decide +kernel)
    (case k42 => first | k_is | rfl | decide +kernel)
    (case a43 => first | k_is | rfl | decide +kernel)
    (case gt43 => first | k_is | rfl | decide +kernel)
    (case tk43 => first | k_is | rfl | decide +kernel)
    (case rc43 => first | k_is | rfl | decide +kernel)
    (case l43 => first | k_is | rfl | decide +kernel)
    (case c43 => first | k_is | rfl | decide +kernel)
    (case k43 => first | k_is | rfl | decide +kernel)
    (case ve_BadCount => first | k_is | rfl | decide +kernel)
    (case vc_BadCount => first | k_is | rfl | decide +kernel)
    (case vt_BadCount => first | k_is | rfl | decide +kernel)
    (case vs_BadCount_BadCount => first | k_is | rfl | decide +kernel)
    (case vs_BadSpan_BadCount => first | k_is | rfl | decide +kernel)
    (case vs_BadLine_BadCount => first | k_is | rfl | decide +kernel)
    (case vs_BadTable_BadCount => first | k_is | rfl | decide +kernel)
    (case ya_BadCount => first | k_is | rfl | decide +kernel)
    (case yg_BadCount => first | k_is | rfl | decide +kernel)
    (case ye_BadCount => first | k_is | rfl | decide +kernel)
    (case yd_BadCount => first | k_is | rfl | decide +kernel)
    (case yn_BadCount_many => first | k_is | rfl | decide +kernel)
    (case ve_BadLine => first | k_is | rfl | decide +kernel)
    (case vc_BadLine => first | k_is | rfl | decide +kernel)
    (case vt_BadLine => first | k_is | rfl | decide +kernel)
    (case vs_BadCount_BadLine => first | k_is | rfl | decide +kernel)
    (case vs_BadSpan_BadLine => first | k_is | rfl | decide +kernel)
    (case vs_BadLine_BadLine => first | k_is | rfl | decide +kernel)
    (case vs_BadTable_BadLine => first | k_is | rfl | decide +kernel)
    (case ya_BadLine => first | k_is | rfl | decide +kernel)
    (case yg_BadLine => first | k_is | rfl | decide +kernel)
    (case ye_BadLine => first | k_is | rfl | decide +kernel)
    (case yd_BadLine => first | k_is | rfl | decide +kernel)
    (case yn_BadLine_line => first | k_is | rfl | decide +kernel)
    (case a44 => first | k_is | rfl | decide +kernel)
    (case l44 => first | k_is | rfl | decide +kernel)
    (case c44 => first | k_is | rfl | decide +kernel)
    (case k44 => first | k_is | rfl | decide +kernel)
    (case a45 => first | k_is | rfl | decide +kernel)
    (case l45 => first | k_is | rfl | decide +kernel)
    (case c45 => first | k_is | rfl | decide +kernel)
    (case k45 => first | k_is | rfl | decide +kernel)
    (case a46 => first | k_is | rfl | decide +kernel)
    (case l46 => first | k_is | rfl | decide +kernel)
    (case c46 => first | k_is | rfl | decide +kernel)
    (case k46 => first | k_is | rfl | decide +kernel)
    (case a47 => first | k_is | rfl | decide +kernel)
    (case l47 => first | k_is | rfl | decide +kernel)
    (case c47 => first | k_is | rfl | decide +kernel)
    (case k47 => first | k_is | rfl | decide +kernel)
    (case ya_BadTable => first | k_is | rfl | decide +kernel)
    (case yg_BadTable => first | k_is | rfl | decide +kernel)
    (case ye_BadTable => first | k_is | rfl | decide +kernel)
    (case yd_BadTable => first | k_is | rfl | decide +kernel)
    (case yn_BadTable_at => first | k_is | rfl | decide +kernel)
    (case yn_BadTable_why => first | k_is | rfl | decide +kernel)
    (case xl48 => first | k_is | rfl | decide +kernel)
    (case xv48 => first | k_is | rfl | decide +kernel)
    (case xs48 => first | k_is | rfl | decide +kernel)
    (case xe48 => first | k_is | rfl | decide +kernel)
    (case xt48 => first | k_is | rfl | decide +kernel)
    (case xk48 => first | k_is | rfl | decide +kernel)
    (case a48 => first | k_is | rfl | decide +kernel)
    (case t48 => first | k_is | rfl | decide +kernel)
    (case l48 => first | k_is | rfl | decide +kernel)
    (case c48 => first | k_is | rfl | decide +kernel)
    (case k48 => first | k_is | rfl | decide +kernel)
    (case xl49 => first | k_is | rfl | decide +kernel)
    (case xv49 => first | k_is | rfl | decide +kernel)
    (case xs49 => first | k_is | rfl | decide +kernel)
    (case xe49 => first | k_is | rfl | decide +kernel)
    (case xt49 => first | k_is | rfl | decide +kernel)
    (case xk49 => first | k_is | rfl | decide +kernel)
    (case a49 => first | k_is | rfl | decide +kernel)
    (case t49 => first | k_is | rfl | decide +kernel)
    (case l49 => first | k_is | rfl | decide +kernel)
    (case c49 => first | k_is | rfl | decide +kernel)
    (case k49 => first | k_is | rfl | decide +kernel)
    (case ya_BadSpan => first | k_is | rfl | decide +kernel)
    (case yg_BadSpan => first | k_is | rfl | decide +kernel)
    (case ye_BadSpan => first | k_is | rfl | decide +kernel)
    (case yd_BadSpan => first | k_is | rfl | decide +kernel)
    (case yn_BadSpan_at => first | k_is | rfl | decide +kernel)
    (case xl50 => first | k_is | rfl | decide +kernel)
    (case xv50 => first | k_is | rfl | decide +kernel)
    (case xs50 => first | k_is | rfl | decide +kernel)
    (case xe50 => first | k_is | rfl | decide +kernel)
    (case xt50 => first | k_is | rfl | decide +kernel)
    (case xk50 => first | k_is | rfl | decide +kernel)
    (case a50 => first | k_is | rfl | decide +kernel)
    (case t50 => first | k_is | rfl | decide +kernel)
    (case l50 => first | k_is | rfl | decide +kernel)
    (case c50 => first | k_is | rfl | decide +kernel)
    (case k50 => first | k_is | rfl | decide +kernel)
    (case xl51 => first | k_is | rfl | decide +kernel)
    (case xv51 => first | k_is | rfl | decide +kernel)
    (case xs51 => first | k_is | rfl | decide +kernel)
    (case xe51 => first | k_is | rfl | decide +kernel)
    (case xt51 => first | k_is | rfl | decide +kernel)
    (case xk51 => first | k_is | rfl | decide +kernel)
    (case a51 => first | k_is | rfl | decide +kernel)
    (case t51 => first | k_is | rfl | decide +kernel)
    (case l51 => first | k_is | rfl | decide +kernel)
    (case c51 => first | k_is | rfl | decide +kernel)
    (case k51 => first | k_is | rfl | decide +kernel)
    (case z_NoneType => first | k_is | rfl | decide +kernel)
    (case z_all => first | k_is | rfl | decide +kernel)
    (case z_bool => first | k_is | rfl | decide +kernel)
    (case z_bytes => first | k_is | rfl | decide +kernel)
    (case z_dict => first | k_is | rfl | decide +kernel)
    (case z_enumerate => first | k_is | rfl | decide +kernel)
    (case z_int => first | k_is | rfl | decide +kernel)
    (case z_isinstance => first | k_is | rfl | decide +kernel)
    (case z_len => first | k_is | rfl | decide +kernel)
    (case z_list => first | k_is | rfl | decide +kernel)
    (case z_max => first | k_is | rfl | decide +kernel)
    (case z_min => first | k_is | rfl | decide +kernel)
    (case z_range => first | k_is | rfl | decide +kernel)
    (case z_str => first | k_is | rfl | decide +kernel)
    (case z_tuple => first | k_is | rfl | decide +kernel)
    (case y_MOST => first | k_is | rfl | decide +kernel)
    (case y_MOST_GROUPS => first | k_is | rfl | decide +kernel)
#print axioms PySem.Challenge.cw_codespans_k33_source_edits_holds
end
