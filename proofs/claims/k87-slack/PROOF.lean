import PyProof.Rows.All
import Wide.All
import OpenK.AllK
import Wide.FinOn
import HandS.ForMost
import HandS.ForExc
import HandS.Star
import HandS.Defaults
import HandS.CallLocal
import HandS.Gcd
import HandS.Wide
import HandS.TupAny
import HandS.Zip
import HandS.Rev
import HandS.RevRange
import HandS.Conv
import HandS.IsInst
import HandS.Flow
import HandS.Strs
import HandS.ExcSuper
import HandS.CallSlots
import HandS.SortInts
import HandS.Head0
import HandS.Head1
import HandS.Head2
import HandS.HeadEnd
import HandS.HeadHook1
import HandS.HeadHook2
import HandS.ExcField
import HandS.ExcInit
import KE.KExcSuper
import HandS.Codes
import PySem.Challenge.RW_bellrest_k87_slack_in_tables
import KE.KStateDown
import HandS.Head3
import KE.GoesMore
set_option Elab.async false
set_option linter.all false
section
set_option Elab.async false
set_option linter.all false
set_option maxRecDepth 100000
/-! BrSem: plain values, a small syntax, and its evaluator (no Python object in sight). -/
namespace BR
open PySem

/-! ### values -/
inductive PV where
  | non | bl (b : Bool) | int (i : Int) | str (s : Str)
  /-- a tuple; a list that nobody changes any more; a list that is only read (an argument of the law) -/
  | tup (xs : List PV) | lst (xs : List PV) | arg (xs : List PV)
  /-- a tuple of which the object is known -/
  | tpd (xs : List PV)
  /-- a dict that nobody changes any more -/
  | dct (ks : List L2.Key) (vs : List PV)
  /-- an instance that nobody changes any more -/
  | obj (c : Nat) (fs : List Nat) (vs : List PV)
  /-- a def of the module as a value -/
  | fn (f : Nat)
  /-- the n-th thing of the store -/
  | ref (n : Nat)
deriving Inhabited

/-- what may change -/
inductive Cell where
  | dead
  | lst (xs : List PV)
  | dct (ks : List L2.Key) (vs : List PV)
  | obj (c : Nat) (fs : List Nat) (vs : List PV)
deriving Inhabited

abbrev Sto := List Cell
abbrev Env := List (Option PV)

mutual
/-- no thing of the store is named -/
def PV.pu : PV → Bool
  | .ref _ => false
  | .tup xs => PV.pus xs
  | .lst xs => PV.pus xs
  | .arg xs => PV.pus xs
  | .tpd xs => PV.pus xs
  | .dct _ vs => PV.pus vs
  | .obj _ _ vs => PV.pus vs
  | .non => true
  | .bl _ => true
  | .int _ => true
  | .str _ => true
  | .fn _ => true
def PV.pus : List PV → Bool
  | [] => true
  | x :: xs => PV.pu x && PV.pus xs
end

mutual
/-- only things below the n-th are named -/
def PV.be (n : Nat) : PV → Bool
  | .ref i => decide (i < n)
  | .tup xs => PV.bes n xs
  | .lst xs => PV.bes n xs
  | .arg xs => PV.bes n xs
  | .tpd xs => PV.bes n xs
  | .dct _ vs => PV.bes n vs
  | .obj _ _ vs => PV.bes n vs
  | .non => true
  | .bl _ => true
  | .int _ => true
  | .str _ => true
  | .fn _ => true
def PV.bes (n : Nat) : List PV → Bool
  | [] => true
  | x :: xs => PV.be n x && PV.bes n xs
end
def Cell.be (n : Nat) : Cell → Bool
  | .dead => true
  | .lst xs => PV.bes n xs
  | .dct _ vs => PV.bes n vs
  | .obj _ _ vs => PV.bes n vs
/-- the store's end may be let go: what stays is as it was, or names nothing of the end -/
def cuts (st st' : Sto) : Prop := st.length ≤ st'.length ∧ (st'.take st.length = st ∨ (st'.take st.length).all (Cell.be st.length) = true)
open Classical in
noncomputable instance (st st' : Sto) : Decidable (cuts st st') := inferInstance

mutual
def PV.dat : PV → Option PyData
  | .non => some .none
  | .bl b => some (.bool b)
  | .int i => some (.int i)
  | .str s => some (.str s)
  | .tup xs => (PV.dats xs).map .tuple
  | .lst xs => (PV.dats xs).map .list
  | .tpd xs => (PV.dats xs).map .tuple
  | .arg _ => none
  | .dct _ _ => none
  | .obj _ _ _ => none
  | .fn _ => none
  | .ref _ => none
def PV.dats : List PV → Option (List PyData)
  | [] => some []
  | x :: xs => (PV.dat x).bind fun d => (PV.dats xs).map fun ds => d :: ds
end

def peq (a b : PV) : Option Bool := (PV.dat a).bind fun d => (PV.dat b).bind fun e =>
  if (SeqAt.shaped d && SeqAt.shaped e) = true then some (PyData.eqv d e) else none

/-! ### results -/
inductive Re (α : Type) where
  | ok (a : α) (st : Sto)
  | ex (c : Nat) (vs : List PV) (st : Sto)
abbrev Mo (α : Type) := Option (Re α)
def bnd {α β : Type} (m : Mo α) (k : α → Sto → Mo β) : Mo β := match m with
  | some (.ok a st) => k a st
  | some (.ex c vs st) => some (.ex c vs st)
  | none => none
abbrev ret {α : Type} (a : α) (st : Sto) : Mo α := some (.ok a st)
/-- a value that may lack -/
def lif {α : Type} (o : Option α) (st : Sto) : Mo α := match o with
  | some a => some (.ok a st)
  | none => none
@[simp] theorem bnd_ok {α β : Type} (a : α) (st : Sto) (k : α → Sto → Mo β) : bnd (some (.ok a st)) k = k a st := by unfold bnd; rfl
@[simp] theorem bnd_ex {α β : Type} (c : Nat) (vs : List PV) (st : Sto) (k : α → Sto → Mo β) : bnd (some (.ex c vs st)) k = some (.ex c vs st) := by unfold bnd; rfl
@[simp] theorem bnd_none {α β : Type} (k : α → Sto → Mo β) : bnd none k = none := by unfold bnd; rfl
@[simp] theorem lif_some {α : Type} (a : α) (st : Sto) : lif (some a) st = some (.ok a st) := by unfold lif; rfl
@[simp] theorem lif_none {α : Type} (st : Sto) : lif (none : Option α) st = none := rfl

inductive Fl where
  | nx | bk | ct | rt (v : PV)
inductive SRe where
  | ok (f : Fl) (env : Env) (st : Sto)
  | ex (c : Nat) (vs : List PV) (env : Env) (st : Sto)
abbrev SM := Option SRe

/-! ### syntax -/
inductive Op2 where | add | sub | mul | fdiv | mod | pow
inductive Cp where | lt | le | gt | ge | eq | ne | isN | notN | inn | notin
inductive Ty where | int | bool | str | tuple
inductive Blt where | len | abs | min | max | int | list | tuple | tuplei | gcd | all | any | sorted
inductive Bm where | join | split | index
mutual
inductive Tg where
  | nm (i : Nat) | tup (ts : Tgs)
inductive Tgs where
  | nil | cons (t : Tg) (ts : Tgs)
end
mutual
inductive E where
  | var (i : Nat) | int (n : Int) | bl (b : Bool) | str (s : String) | non | glb (x : Nat)
  | bin (op : Op2) (a b : E) | neg (a : E)
  | cmp (op : Cp) (a b : E) | chain (o1 o2 : Cp) (a b c : E)
  | and (a b : E) | or (a b : E) | one (a : E) | not (a : E) | ite (t a b : E)
  | tup (es : Es) | lst (es : Es) | newd
  | idx (a b : E) | slB (a lo hi : E) | slL (a lo : E) | slH (a hi : E)
  | fld (a : E) (f : Nat)
  | call (f : Nat) (es : Es) | callv (i : Nat) (es : Es) | meth (a : E) (m : Nat) (es : Es) | mk (c : Nat) (es : Es)
  | blt (b : Blt) (es : Es) | bm (a : E) (m : Bm) (e : E) | isi (a : E) (t : Ty)
  | lc (it : It) (tg : Tg) (elt : E) (own : List (Str × Nat))
  | lcc (it : It) (tg : Tg) (c : E) (elt : E) (own : List (Str × Nat))
  | cell (e : E) | frz (i : Nat)
inductive Es where
  | nil | cons (e : E) (es : Es) | star (e : E) (es : Es)
inductive It where
  | seq (e : E) | rng1 (e : E) | rng2 (a b : E) | enm (e : E) | zip (a b : E) | revr1 (e : E)
end
inductive S where
  | skip | seq (a b : S)
  | set (t : Tg) (e : E) | wipe (is : List Nat)
  | ex (e : E) | ret (e : E) | retn
  | ifs (c : E) (a b : S)
  | fors (t : Tg) (it : It) (b : S) | whil (c : E) (b : S)
  | brk | cont
  | app (l e : E) | ext (l e : E)
  | setix (o i e : E)
  | setfl (o : E) (f : Nat) (e : E)
  | rai (c : Nat) (es : Es)
  | tryr (b : S) (c i f j : Nat)
  | unre

/-! ### operations -/
def cutP (xs : List PV) (lo hi : Option Int) : List PV := (xs.drop (HT.sIx xs.length 0 lo)).take (HT.sIx xs.length xs.length hi - HT.sIx xs.length 0 lo)
/-- the items of what is a row of things -/
def seqOf (st : Sto) : PV → Option (List PV)
  | .tup xs => some xs
  | .lst xs => some xs
  | .arg xs => some xs
  | .tpd xs => some xs
  | .ref n => match st[n]? with
    | some (.lst xs) => some xs
    | _ => none
  | _ => none
/-- .. of what is a list -/
def lstOf (st : Sto) : PV → Option (List PV)
  | .lst xs => some xs
  | .arg xs => some xs
  | .ref n => match st[n]? with
    | some (.lst xs) => some xs
    | _ => none
  | _ => none
def smul (i j : Int) : Prop := i.natAbs.log2 + j.natAbs.log2 < 1000000
def sdiv (j : Int) : Prop := 0 < j ∧ j.natAbs.log2 < 9000
def spow (i j : Int) : Prop := 0 ≤ j ∧ j ≤ 1000000 ∧ i.natAbs < 2 ^ 64
instance (i j : Int) : Decidable (smul i j) := by unfold smul; infer_instance
instance (j : Int) : Decidable (sdiv j) := by unfold sdiv; infer_instance
instance (i j : Int) : Decidable (spow i j) := by unfold spow; infer_instance
def bin2 : Op2 → PV → PV → Option PV
  | .add, .int i, .int j => some (.int (i + j))
  | .add, .str x, .str y => if x.length + y.length ≤ sizeLine then some (.str (x ++ y)) else none
  | .add, .tup xs, .tup ys => if xs.length + ys.length ≤ sizeLine then some (.tup (xs ++ ys)) else none
  | .add, .lst xs, .lst ys => if xs.length + ys.length ≤ sizeLine then some (.lst (xs ++ ys)) else none
  | .sub, .int i, .int j => some (.int (i - j))
  | .mul, .int i, .int j => if smul i j then some (.int (i * j)) else none
  | .mul, .lst xs, .int k => if 0 ≤ k ∧ k < 1000000 ∧ xs.length * k.toNat ≤ sizeLine then some (.lst (List.replicate k.toNat xs).flatten) else none
  | .mul, .str x, .int k => if k = 0 then some (.str ⟨#[]⟩) else if k = 1 then some (.str x) else none
  | .fdiv, .int i, .int j => if sdiv j then some (.int (i / j)) else none
  | .mod, .int i, .int j => if 0 < j then some (.int (i % j)) else none
  | .pow, .int i, .int j => if spow i j then some (.int (i ^ j.toNat)) else none
  | _, _, _ => none
/-- a comparison of tuples of ints -/
def intsOf : List PV → Option (List Int)
  | [] => some []
  | .int i :: r => (intsOf r).map fun l => i :: l
  | _ => none
def flatP : PV → Bool
  | .non => true
  | .bl _ => true
  | .int _ => true
  | .str _ => true
  | _ => false
def eqF : PV → PV → Bool
  | .non, .non => true
  | .bl a, .bl b => a == b
  | .bl a, .int b => (if a then 1 else 0) == b
  | .int a, .bl b => a == (if b then 1 else 0)
  | .int a, .int b => a == b
  | .str a, .str b => a == b
  | _, _ => false
def keyOf : PV → Option L2.Key
  | .int i => some (.inl i)
  | .str s => some (.inr s)
  | _ => none
def lookP (k : L2.Key) : List L2.Key → List PV → Option PV
  | j :: ks, v :: vs => if j = k then some v else lookP k ks vs
  | _, _ => none
/-- d[k] = v: in its place, or at the end -/
def putK (k : L2.Key) (ks : List L2.Key) : List L2.Key := if ks.any (fun j => decide (j = k)) = true then ks else ks ++ [k]
def repV (k : L2.Key) (v : PV) : List L2.Key → List PV → List PV
  | j :: ks, u :: vs => (if j = k then v else u) :: repV k v ks vs
  | _, _ => []
def putV (k : L2.Key) (v : PV) (ks : List L2.Key) (vs : List PV) : List PV := if ks.any (fun j => decide (j = k)) = true then repV k v ks vs else vs ++ [v]
def fldP (f : Nat) : List Nat → List PV → Option PV
  | j :: ks, v :: vs => if j = f then some v else fldP f ks vs
  | _, _ => none
def putFs (f : Nat) : List Nat → List Nat
  | [] => [f]
  | j :: ks => if j = f then j :: ks else j :: putFs f ks
def putFv (f : Nat) (v : PV) : List Nat → List PV → List PV
  | [], _ => [v]
  | j :: ks, u :: vs => if j = f then v :: vs else u :: putFv f v ks vs
  | _ :: _, [] => []
/-- a dict's keys and values -/
def dctOf (st : Sto) : PV → Option (List L2.Key × List PV)
  | .dct ks vs => some (ks, vs)
  | .ref n => match st[n]? with
    | some (.dct ks vs) => some (ks, vs)
    | _ => none
  | _ => none
/-- an instance's class, fields -/
def objOf (st : Sto) : PV → Option (Nat × List Nat × List PV)
  | .obj c fs vs => some (c, fs, vs)
  | .ref n => match st[n]? with
    | some (.obj c fs vs) => some (c, fs, vs)
    | _ => none
  | _ => none
def inP (st : Sto) (x c : PV) : Option Bool := match c with
  | .str s => match x with
    | .str z => if z.length = 1 then some (decide (z.cps.getD 0 0 ∈ s.cps.toList)) else none
    | _ => none
  | c => match seqOf st c with
    | some xs => if (flatP x && xs.all flatP) = true then some (xs.any fun y => eqF y x) else none
    | none => match dctOf st c with
      | some (ks, _) => (keyOf x).map fun k => ks.any (fun j => decide (j = k))
      | none => none
def cmpo (st : Sto) : Cp → PV → PV → Option Bool
  | .lt, .int i, .int j => some (decide (i < j))
  | .le, .int i, .int j => some (decide (i ≤ j))
  | .gt, .int i, .int j => some (decide (j < i))
  | .ge, .int i, .int j => some (decide (j ≤ i))
  | .lt, .tup xs, .tup ys => (intsOf xs).bind fun is => (intsOf ys).map fun js => HT.lexLt is js
  | .eq, x, y => peq x y
  | .ne, x, y => (peq x y).map (!·)
  | .isN, x, _ => some (match x with | .non => true | _ => false)
  | .notN, x, _ => some (match x with | .non => false | _ => true)
  | .inn, x, y => inP st x y
  | .notin, x, y => (inP st x y).map (!·)
  | _, _, _ => none
def tru (st : Sto) : PV → Option Bool
  | .non => some false
  | .bl b => some b
  | .int i => some (i != 0)
  | .str s => some ((s.length : Int) != 0)
  | .tup xs => some (!xs.isEmpty)
  | .lst xs => some (!xs.isEmpty)
  | .arg xs => some (!xs.isEmpty)
  | .tpd xs => some (!xs.isEmpty)
  | .dct ks _ => some (!ks.isEmpty)
  | .ref n => match st[n]? with
    | some (.lst xs) => some (!xs.isEmpty)
    | some (.dct ks _) => some (!ks.isEmpty)
    | _ => none
  | _ => none
def atP (xs : List PV) (i : Int) : Option PV := (L2.ixN xs.length i).bind fun j => xs[j]?
def idxS (s : Str) : PV → Option PV
  | .int i => (L2.ixN s.cps.toList.length i).bind fun j => (s.cps.toList[j]?).map fun c => .str ⟨#[c]⟩
  | _ => none
def idxL (xs : List PV) : PV → Option PV
  | .int i => atP xs i
  | _ => none
def idxO (st : Sto) (a b : PV) : Option PV := match seqOf st a with
  | some xs => idxL xs b
  | none => (dctOf st a).bind fun d => (keyOf b).bind fun k => lookP k d.1 d.2
def idxP (st : Sto) (a b : PV) : Option PV := match a with
  | .str s => idxS s b
  | .non => idxO st .non b
  | .bl x => idxO st (.bl x) b
  | .int x => idxO st (.int x) b
  | .tup x => idxO st (.tup x) b
  | .lst x => idxO st (.lst x) b
  | .arg x => idxO st (.arg x) b
  | .tpd x => idxO st (.tpd x) b
  | .dct k x => idxO st (.dct k x) b
  | .obj c f x => idxO st (.obj c f x) b
  | .fn x => idxO st (.fn x) b
  | .ref x => idxO st (.ref x) b
def intO : PV → Option Int
  | .int i => some i
  | _ => none
def sliP (st : Sto) (a : PV) (lo hi : Option Int) : Option PV := match a with
  | .str s => some (.str (L2.cutS s lo hi))
  | .tup xs => some (.tup (cutP xs lo hi))
  | a => (lstOf st a).map fun xs => .lst (cutP xs lo hi)
/-- isinstance -/
def isiP (x : PV) (t : Ty) : Option Bool := match x with
  | .int _ => some (match t with | .int => true | _ => false)
  | .bl _ => some (match t with | .int => true | .bool => true | _ => false)
  | .str _ => some (match t with | .str => true | _ => false)
  | .tup _ => some (match t with | .tuple => true | _ => false)
  | .tpd _ => some (match t with | .tuple => true | _ => false)
  | .lst _ => some false
  | .non => some false
  | _ => none
def strsOf : List PV → Option (List Str)
  | [] => some []
  | .str s :: r => (strsOf r).map fun l => s :: l
  | _ => none
def blsOf : List PV → Option (List Bool)
  | [] => some []
  | .bl s :: r => (blsOf r).map fun l => s :: l
  | _ => none
/-- the answer of a sort of texts: the one list that is sorted and has these -/
noncomputable def sortS (ss : List Str) : List Str :=
  open Classical in if h : ∃ ys : List Str, ys.Perm ss ∧ PyProof.Rows.sortedS ys = true then h.choose else ss
def lenO (st : Sto) (x : PV) : Option PV := match seqOf st x with
  | some xs => some (.int xs.length)
  | none => (dctOf st x).map fun d => .int d.1.length
def lenP (st : Sto) : List PV → Option PV
  | [.str s] => some (.int s.length)
  | [.non] => none
  | [.bl _] => none
  | [.int _] => none
  | [.fn _] => none
  | [.obj _ _ _] => none
  | [.tup x] => some (.int x.length)
  | [.lst x] => some (.int x.length)
  | [.arg x] => some (.int x.length)
  | [.tpd x] => some (.int x.length)
  | [.dct k _] => some (.int k.length)
  | [.ref n] => lenO st (.ref n)
  | _ => none
def absP : List PV → Option PV
  | [.int i] => some (.int (if i < 0 then -i else i))
  | _ => none
def minP : List PV → Option PV
  | [.int i, .int j] => some (.int (if j < i then j else i))
  | _ => none
def maxP : List PV → Option PV
  | [.int i, .int j] => some (.int (if j > i then j else i))
  | _ => none
def intP : List PV → Option PV
  | [.int i] => some (.int i)
  | _ => none
def gcdP : List PV → Option PV
  | [.int i, .int j] => some (.int ((Nat.gcd i.natAbs j.natAbs : Nat) : Int))
  | _ => none
def keyP : L2.Key → PV
  | .inl i => .int i
  | .inr s => .str s
def listP (st : Sto) : List PV → Option PV
  | [x] => match seqOf st x with
    | some xs => some (.lst xs)
    | none => (dctOf st x).bind fun d => if (d.1.all fun k => match k with | .inl _ => true | .inr s => decide (s.length ≤ sizeLine)) = true ∧ d.1.length ≤ sizeLine then some (.lst (d.1.map keyP)) else none
  | _ => none
def tupleP (st : Sto) : List PV → Option PV
  | [x] => (lstOf st x).map .tup
  | _ => none
def tupleiP (st : Sto) : List PV → Option PV
  | [x] => (lstOf st x).map .tpd
  | _ => none
def allP (st : Sto) : List PV → Option PV
  | [x] => (lstOf st x).bind fun xs => (blsOf xs).map fun bs => .bl (bs.all id)
  | _ => none
def anyP (st : Sto) : List PV → Option PV
  | [x] => (lstOf st x).bind fun xs => (blsOf xs).map fun bs => .bl (bs.any id)
  | _ => none
noncomputable def sortedP (st : Sto) : List PV → Option PV
  | [x] => (lstOf st x).bind fun xs => (strsOf xs).bind fun ss => if ss.length < 64 then some (.lst ((sortS ss).map .str)) else none
  | _ => none
noncomputable def bltf (st : Sto) (b : Blt) (xs : List PV) : Option PV := match b with
  | .len => lenP st xs
  | .abs => absP xs
  | .min => minP xs
  | .max => maxP xs
  | .int => intP xs
  | .list => listP st xs
  | .tuple => tupleP st xs
  | .tuplei => tupleiP st xs
  | .gcd => gcdP xs
  | .all => allP st xs
  | .any => anyP st xs
  | .sorted => sortedP st xs
/-- the first place of a text in a row of texts -/
def placeS (z : Str) : List Str → Option Nat
  | [] => none
  | y :: ys => if y = z then some 0 else (placeS z ys).map (· + 1)
def joinP (st : Sto) : PV → PV → Option PV
  | .str a, x => (seqOf st x).bind fun xs => (strsOf xs).bind fun ss => if (ss.map (·.length)).sum + ss.length * a.length ≤ 1000000 ∧ (Txt.join a ss).length ≤ 1000000 then some (.str (Txt.join a ss)) else none
  | _, _ => none
def splitP : PV → PV → Option PV
  | .str a, .str b => if b.length ≠ 0 ∧ a.length ≤ 1000000 ∧ (Txt.split a b).length ≤ 1000000 ∧ (Txt.split a b).all (fun s => decide (s.length ≤ 1000000)) = true then some (.lst ((Txt.split a b).map .str)) else none
  | _, _ => none
def indexP : PV → PV → Option PV
  | .tpd xs, .str z => (strsOf xs).bind fun ss => (placeS z ss).map fun (j : Nat) => PV.int (j : Nat)
  | _, _ => none
/-- may be asked so -/
def bmR : Bm → PV → Bool
  | .join, .str _ => true
  | .split, .str _ => true
  | .index, .tpd _ => true
  | _, _ => false
def bmf (st : Sto) (m : Bm) (a x : PV) : Option PV := match m with
  | .join => joinP st a x
  | .split => splitP a x
  | .index => indexP a x
def look : Env → Nat → Option PV
  | [], _ => none
  | x :: _, 0 => x
  | _ :: r, i + 1 => look r i
mutual
def asg : Tg → PV → Env → Option Env
  | .nm i, v, env => some (env.set i (some v))
  | .tup ts, .tup xs, env => asgs ts xs env
  | .tup _, _, _ => none
def asgs : Tgs → List PV → Env → Option Env
  | .nil, [], env => some env
  | .cons t ts, v :: vs, env => (asg t v env).bind fun env => asgs ts vs env
  | _, _, _ => none
end
def wipeE (env : Env) : List Nat → Env
  | [] => env
  | i :: is => (wipeE env is).set i none

/-! ### the program -/
structure Fd where
  np : Nat
  star : Bool
  dfl : List PV
  ns : Nat
  body : S
structure Tab where
  fns : Nat → Option Fd
  glb : Nat → Option PV
  ini : Nat → Option Nat
  still : Nat → Bool
  mth : Nat → Nat → Option Nat
  att : Nat → Nat → Bool
  xf : Nat → List Nat
abbrev Phi := Nat → List PV → Sto → Mo PV

/-! ### loops -/
def lcL (g : Sto → Prop) [DecidablePred g] (f : PV → Sto → Mo (Option PV)) : List PV → Sto → Mo (List PV)
  | [], st => if g st then some (.ok [] st) else none
  | v :: vs, st => if g st then (match f v st with
    | some (.ok o st) => bnd (lcL g f vs st) fun xs st => some (.ok (o.toList ++ xs) st)
    | _ => none) else none
def forL (g : Sto → Prop) [DecidablePred g] (f : PV → Env → Sto → SM) : List PV → Env → Sto → SM
  | [], env, st => if g st then some (.ok .nx env st) else none
  | v :: vs, env, st => if g st then (match f v env st with
    | some (.ok .nx env st) => forL g f vs env st
    | some (.ok .ct env st) => forL g f vs env st
    | some (.ok .bk env st) => some (.ok .nx env st)
    | r => r) else none
def whN (c : Env → Sto → Mo Bool) (b : Env → Sto → SM) : Nat → Env → Sto → SM
  | 0, _, _ => none
  | n + 1, env, st => match c env st with
    | some (.ok true st) => (match b env st with
      | some (.ok .nx env st) => whN c b n env st
      | some (.ok .ct env st) => whN c b n env st
      | some (.ok .bk env st) => some (.ok .nx env st)
      | r => r)
    | some (.ok false st) => some (.ok .nx env st)
    | some (.ex e vs st) => some (.ex e vs env st)
    | none => none
open Classical in
noncomputable def whL (c : Env → Sto → Mo Bool) (b : Env → Sto → SM) (env : Env) (st : Sto) : SM :=
  if h : ∃ r : SRe, ∃ n, whN c b n env st = some r then some h.choose else none
/-- what a walked list of the store must stay -/
def gok (g : Option (Nat × List PV)) (st : Sto) : Prop := match g with
  | none => True
  | some (n, xs) => ∃ c, st[n]? = some c ∧ c = .lst xs
open Classical in
noncomputable instance (g : Option (Nat × List PV)) : DecidablePred (gok g) := fun _ => inferInstance
/-- the items that are walked, and where they stand if they stand in the store -/
def walked (st : Sto) (v : PV) : Option (List PV × Option (Nat × List PV)) := match v with
  | .tup xs => some (xs, none)
  | .lst xs => some (xs, none)
  | .arg xs => some (xs, none)
  | .tpd xs => some (xs, none)
  | .str s => some (s.cps.toList.map fun c => .str ⟨#[c]⟩, none)
  | .ref n => match st[n]? with
    | some (.lst xs) => some (xs, some (n, xs))
    | _ => none
  | _ => none
def rngP (lo hi : Int) : List PV := (List.range (hi - lo).toNat).map fun (i : Nat) => .int (lo + i)
def enmP (xs : List PV) : List PV := xs.zipIdx.map fun p => .tup [.int p.2, p.1]
def zipP (xs ys : List PV) : List PV := (xs.zip ys).map fun p => .tup [p.1, p.2]

/-! ### the evaluator -/
section
variable (T : Tab) (Φ : Phi)
mutual
noncomputable def ev : E → Env → Sto → Mo PV
  | .var i, env, st => lif (look env i) st
  | .int n, _, st => ret (.int n) st
  | .bl b, _, st => ret (.bl b) st
  | .str s, _, st => ret (.str (Str.ofString s)) st
  | .non, _, st => ret .non st
  | .glb x, _, st => lif (T.glb x) st
  | .bin op a b, env, st => bnd (ev a env st) fun x st => bnd (ev b env st) fun y st => lif (bin2 op x y) st
  | .neg a, env, st => bnd (ev a env st) fun x st => match x with
    | .int i => ret (.int (-i)) st
    | _ => none
  | .cmp op a b, env, st => bnd (ev a env st) fun x st => bnd (ev b env st) fun y st => bnd (lif (cmpo st op x y) st) fun r st => ret (.bl r) st
  | .chain o1 o2 a b c, env, st => bnd (ev a env st) fun x st => bnd (ev b env st) fun y st => bnd (lif (cmpo st o1 x y) st) fun r st => match r with
    | true => bnd (ev c env st) fun z st => bnd (lif (cmpo st o2 y z) st) fun r st => ret (.bl r) st
    | false => ret (.bl false) st
  | .and a b, env, st => bnd (ev a env st) fun x st => bnd (lif (tru st x) st) fun r st => match r with
    | true => ev b env st
    | false => ret x st
  | .or a b, env, st => bnd (ev a env st) fun x st => bnd (lif (tru st x) st) fun r st => match r with
    | true => ret x st
    | false => ev b env st
  | .one a, env, st => ev a env st
  | .not a, env, st => bnd (ev a env st) fun x st => bnd (lif (tru st x) st) fun r st => ret (.bl (!r)) st
  | .ite t a b, env, st => bnd (bnd (ev t env st) fun x st => lif (tru st x) st) fun r st => match r with
    | true => ev a env st
    | false => ev b env st
  | .tup es, env, st => bnd (evs es env st) fun xs st => if xs.length ≤ sizeLine then ret (.tup xs) st else none
  | .lst es, env, st => bnd (evs es env st) fun xs st => if xs.length ≤ sizeLine then ret (.lst xs) st else none
  | .newd, _, st => ret (.dct [] []) st
  | .idx a b, env, st => bnd (ev a env st) fun x st => bnd (ev b env st) fun y st => lif (idxP st x y) st
  | .slB a lo hi, env, st => bnd (ev a env st) fun x st => bnd (ev lo env st) fun l st => bnd (lif (intO l) st) fun i st => bnd (ev hi env st) fun h st => bnd (lif (intO h) st) fun j st => lif (sliP st x (some i) (some j)) st
  | .slL a lo, env, st => bnd (ev a env st) fun x st => bnd (ev lo env st) fun l st => bnd (lif (intO l) st) fun i st => lif (sliP st x (some i) none) st
  | .slH a hi, env, st => bnd (ev a env st) fun x st => bnd (ev hi env st) fun h st => bnd (lif (intO h) st) fun j st => lif (sliP st x none (some j)) st
  | .fld a f, env, st => bnd (ev a env st) fun x st => lif ((objOf st x).bind fun o => if T.att o.1 f = true then fldP f o.2.1 o.2.2 else none) st
  | .call f es, env, st => bnd (evs es env st) fun vs st => Φ f vs st
  | .callv i es, env, st => match look env i with
    | some (.fn f) => bnd (evs es env st) fun vs st => Φ f vs st
    | _ => none
  | .meth a m es, env, st => bnd (ev a env st) fun x st => match objOf st x with
    | some (c, fs, _) => if m ∈ fs then none else match T.mth c m with
      | some f => bnd (evs es env st) fun vs st => Φ f (x :: vs) st
      | none => none
    | none => none
  | .mk c es, env, st => bnd (evs es env st) fun vs st => match T.ini c with
    | some f => bnd (Φ f (.ref st.length :: vs) (st ++ [.obj c [] []])) fun r st' => match r, st'[st.length]? with
      | .non, some (.obj c' fs us) => if T.still c = true then (if PV.pus us = true ∧ cuts st st' then ret (.obj c' fs us) (st'.take st.length) else none) else ret (.ref st.length) st'
      | _, _ => none
    | none => none
  | .blt b es, env, st => bnd (evs es env st) fun vs st => lif (bltf st b vs) st
  | .bm a m e, env, st => bnd (ev a env st) fun x st => if bmR m x = true then bnd (ev e env st) fun y st => lif (bmf st m x y) st else none
  | .isi a t, env, st => bnd (ev a env st) fun x st => bnd (lif (isiP x t) st) fun b st => ret (.bl b) st
  | .lc it tg elt own, env, st => bnd (evi it env st) fun p st =>
    bnd (lcL (gok p.2) (fun v st => match asg tg v (wipeE env (own.map (·.2))) with
      | some env' => bnd (ev elt env' st) fun x st => ret (some x) st
      | none => none) p.1 st) fun xs st => ret (.lst xs) st
  | .lcc it tg c elt own, env, st => bnd (evi it env st) fun p st =>
    bnd (lcL (gok p.2) (fun v st => match asg tg v (wipeE env (own.map (·.2))) with
      | some env' => bnd (bnd (ev c env' st) fun x st => lif (tru st x) st) fun r st => match r with
        | true => bnd (ev elt env' st) fun x st => ret (some x) st
        | false => ret none st
      | none => none) p.1 st) fun xs st => ret (.lst xs) st
  | .cell e, env, st => bnd (ev e env st) fun x st => match x with
    | .lst xs => ret (.ref st.length) (st ++ [.lst xs])
    | .dct ks vs => ret (.ref st.length) (st ++ [.dct ks vs])
    | _ => none
  | .frz i, env, st => match look env i with
    | some (.ref n) => (match st[n]? with
      | some (.lst xs) => ret (.lst xs) (st.set n .dead)
      | some (.dct ks vs) => ret (.dct ks vs) (st.set n .dead)
      | _ => none)
    | _ => none
noncomputable def evs : Es → Env → Sto → Mo (List PV)
  | .nil, _, st => ret [] st
  | .cons e es, env, st => bnd (ev e env st) fun x st => bnd (evs es env st) fun xs st => ret (x :: xs) st
  | .star e es, env, st => bnd (ev e env st) fun x st => match seqOf st x with
    | some ys => bnd (evs es env st) fun xs st => ret (ys ++ xs) st
    | none => none
noncomputable def evi : It → Env → Sto → Mo (List PV × Option (Nat × List PV))
  | .seq e, env, st => bnd (ev e env st) fun x st => lif (walked st x) st
  | .rng1 e, env, st => bnd (ev e env st) fun x st => match x with
    | .int n => if -1000000 ≤ n ∧ n ≤ 1000000 then ret (rngP 0 n, none) st else none
    | _ => none
  | .rng2 a b, env, st => bnd (ev a env st) fun x st => bnd (ev b env st) fun y st => match x, y with
    | .int i, .int j => if -1000000 ≤ i ∧ i ≤ 1000000 ∧ -1000000 ≤ j ∧ j ≤ 1000000 then ret (rngP i j, none) st else none
    | _, _ => none
  | .enm e, env, st => bnd (ev e env st) fun x st => match x with
    | .tup xs => ret (enmP xs, none) st
    | .tpd xs => ret (enmP xs, none) st
    | .lst xs => ret (enmP xs, none) st
    | .arg xs => ret (enmP xs, none) st
    | _ => none
  | .zip a b, env, st => bnd (ev a env st) fun x st => bnd (ev b env st) fun y st => match x, y with
    | .tup xs, .tup ys => ret (zipP xs ys, none) st
    | _, _ => none
  | .revr1 e, env, st => bnd (ev e env st) fun x st => match x with
    | .int n => if -1000000 ≤ n ∧ n ≤ 1000000 then ret ((rngP 0 n).reverse, none) st else none
    | _ => none
end

/-- a test -/
noncomputable def evt (c : E) (env : Env) (st : Sto) : Mo Bool := bnd (ev T Φ c env st) fun x st => lif (tru st x) st
/-- an expression's result within a statement -/
def stm {α : Type} (env : Env) (m : Mo α) (k : α → Sto → SM) : SM := match m with
  | some (.ok a st) => k a st
  | some (.ex c vs st) => some (.ex c vs env st)
  | none => none
def sq (m : SM) (k : Env → Sto → SM) : SM := match m with
  | some (.ok .nx env st) => k env st
  | r => r
/-- a list of the store -/
def isCL (st : Sto) : PV → Bool
  | .ref n => match st[n]? with
    | some (.lst _) => true
    | _ => false
  | _ => false
/-- list.append, list.extend -/
def appP (env : Env) (st : Sto) (x v : PV) : SM := match x with
    | .ref n => (match st[n]? with
      | some (.lst xs) => if xs.length < sizeLine then some (.ok .nx env (st.set n (.lst (xs ++ [v])))) else none
      | _ => none)
    | _ => none
def extP (env : Env) (st : Sto) (x v : PV) : SM := match x, v with
    | .ref n, .lst ys => (match st[n]? with
      | some (.lst xs) => if xs.length + ys.length ≤ sizeLine then some (.ok .nx env (st.set n (.lst (xs ++ ys)))) else none
      | _ => none)
    | _, _ => none
/-- x[y] = v, x.f = v -/
def sixP (env : Env) (st : Sto) (x y v : PV) : SM := match x with
    | .ref n => (match st[n]? with
      | some (.lst xs) => (match y with
        | .int k => (match L2.ixN xs.length k with
          | some j => some (.ok .nx env (st.set n (.lst (xs.set j v))))
          | none => none)
        | _ => none)
      | some (.dct ks vs) => (match keyOf y with
        | some k => if ks.length < sizeLine then some (.ok .nx env (st.set n (.dct (putK k ks) (putV k v ks vs)))) else none
        | none => none)
      | _ => none)
    | _ => none
def sflP (att : Nat → Nat → Bool) (f : Nat) (env : Env) (st : Sto) (x v : PV) : SM := match x with
    | .ref n => (match st[n]? with
      | some (.obj c fs vs) => if fs.length < 1000 ∧ att c f = true then some (.ok .nx env (st.set n (.obj c (putFs f fs) (putFv f v fs vs)))) else none
      | _ => none)
    | _ => none
/-- 'except c as n: return n.f == m' -/
def tryP (xf : Nat → List Nat) (c f j i : Nat) : SM → SM
  | some (.ex c' vs env st) => if c' = c ∧ i < env.length then (match fldP f (xf c) vs, look env j with
    | some v, some u => (match peq v u with
      | some b => some (.ok (.rt (.bl b)) (env.set i none) st)
      | none => none)
    | _, _ => none) else none
  | r => r
noncomputable def exec : S → Env → Sto → SM
  | .skip, env, st => some (.ok .nx env st)
  | .seq a b, env, st => sq (exec a env st) fun env st => exec b env st
  | .set t e, env, st => stm env (ev T Φ e env st) fun v st => match asg t v env with
    | some env => some (.ok .nx env st)
    | none => none
  | .wipe is, env, st => some (.ok .nx (wipeE env is) st)
  | .ex e, env, st => stm env (ev T Φ e env st) fun _ st => some (.ok .nx env st)
  | .ret e, env, st => stm env (ev T Φ e env st) fun v st => some (.ok (.rt v) env st)
  | .retn, env, st => some (.ok (.rt .non) env st)
  | .ifs c a b, env, st => stm env (evt T Φ c env st) fun r st => match r with
    | true => exec a env st
    | false => exec b env st
  | .fors t it b, env, st => stm env (evi T Φ it env st) fun p st => forL (gok p.2) (fun v env st => match asg t v env with
    | some env => exec b env st
    | none => none) p.1 env st
  | .whil c b, env, st => whL (evt T Φ c) (exec b) env st
  | .brk, env, st => some (.ok .bk env st)
  | .cont, env, st => some (.ok .ct env st)
  | .app l e, env, st => stm env (ev T Φ l env st) fun x st => if isCL st x = true then stm env (ev T Φ e env st) fun v st => appP env st x v else none
  | .ext l e, env, st => stm env (ev T Φ l env st) fun x st => if isCL st x = true then stm env (ev T Φ e env st) fun v st => extP env st x v else none
  | .setix o i e, env, st => stm env (ev T Φ e env st) fun v st => stm env (ev T Φ o env st) fun x st => stm env (ev T Φ i env st) fun y st => sixP env st x y v
  | .setfl o f e, env, st => stm env (ev T Φ e env st) fun v st => stm env (ev T Φ o env st) fun x st => sflP T.att f env st x v
  | .tryr b c i f j, env, st => tryP T.xf c f j i (exec b env st)
  | .rai c es, env, st => stm env (evs T Φ es env st) fun vs st => some (.ex c vs env st)
  | .unre, _, _ => none
end

/-- a def's end: what it has laid in the store is let go, unless it hands it out -/
noncomputable def fin (st0 : Sto) : SM → Mo PV
  | some (.ok (.rt v) _ st) => if PV.pu v = true ∧ cuts st0 st then some (.ok v (st.take st0.length)) else some (.ok v st)
  | some (.ok .nx _ st) => if cuts st0 st then some (.ok .non (st.take st0.length)) else some (.ok .non st)
  | some (.ok .bk _ _) => none
  | some (.ok .ct _ _) => none
  | some (.ex c vs _ st) => if PV.pus vs = true ∧ cuts st0 st then some (.ex c vs (st.take st0.length)) else some (.ex c vs st)
  | none => none
/-- the parameters' values -/
def pars (d : Fd) (args : List PV) : Option Env :=
  if d.star = true then (if d.np ≤ args.length ∧ args.length - d.np ≤ sizeLine then some (((args.take d.np).map some ++ [some (.tup (args.drop d.np))]) ++ List.replicate (d.ns - (d.np + 1)) none) else none)
  else if args.length = d.np then some ((args.map some ++ d.dfl.map some) ++ List.replicate (d.ns - (d.np + d.dfl.length)) none) else none
noncomputable def runF (T : Tab) : Nat → Phi
  | 0, _, _, _ => none
  | k + 1, f, args, st => match T.fns f with
    | none => none
    | some d => match pars d args with
      | none => none
      | some env => fin st (exec T (runF T k) d.body env st)
end BR
end
section
set_option Elab.async false
set_option linter.all false
set_option maxRecDepth 100000
set_option maxHeartbeats 4000000
/-! BrHook: a Hook with a test of one's own beside the defs. -/
namespace BR
open PySem PySem.Spec PyProof.Rows L2 He
def bltNames : List Str := ["len", "abs", "min", "max", "int", "list", "tuple", "all", "any", "sorted", "isinstance", "range", "enumerate", "zip", "reversed", "bool", "str"]
/-- a def whose text names __class__ -/
def fnC (K : PySem.W.Frag) (p : Str × Option Str) : FnW := match K.lookup (fAd K p) with
  | some ⟨_, _, .func fd, _⟩ => some (fd.name, fd.qualname, fd.params, fd.body, fd.scope, fd.globals, fd.closure.map (fun q => (q.1, 0)), fd.builtins)
  | _ => none
def valC (d : DefD) : FnW := some (d.name, d.qual, d.params, .stmts d.body, d.scope, mainGlobals, [("__class__", 0)], builtinsNs)
def obsX (bx : PySem.W.Frag → Bool) (fn xs : List DefD) (K : PySem.W.Frag) : AlD := (bx K && fn.all fun d => d.ok K, (fn.map fun d => fnW K d.at_) ++ xs.map fun d => fnC K d.at_)
def valX (fn xs : List DefD) : AlD := (true, fn.map DefD.val ++ xs.map valC)
def SaysX (bx : PySem.W.Frag → Bool) (fn xs : List DefD) (K : PySem.W.Frag) : Prop := obsX bx fn xs K = valX fn xs
/-- what a look at the module needs -/
def refsL (o : Obj) : List Addr := match o.data with
  | .func fd => refV fd.code ++ refV fd.defaults ++ fd.closure.map (·.2)
  | .cls cd => [cd.ns]
  | .dict es _ => es.toList.flatMap fun e => refV e.val
  | .seq its _ => its.toList.flatMap refV
  | _ => []
def growL (g : Addr → Option Obj) (as : List Addr) : List Addr := as.flatMap fun a => match g a with
  | some o => refsL o
  | none => []
def asX (g : Addr → Option Obj) : Nat → List Addr → List Addr
  | 0, as => as
  | n + 1, as => as ++ asX g n (growL g as)
def lkX (g : Addr → Option Obj) (n : Nat) : List Addr := cStatics :: asX g n [mainGlobals]
def obsXG (n : Nat) (bx : PySem.W.Frag → Bool) (fn xs : List DefD) (g : Addr → Option Obj) : AlD := obsX bx fn xs (frG g (lkX g n))
def hookX (n : Nat) (bx : PySem.W.Frag → Bool) (fn xs : List DefD) : PySem.W.Hook where
  α := AlD
  obs := fun s => obsXG n bx fn xs s.heap.get?
  val := fun _ => valX fn xs
  says := fun _ h => ∃ K : PySem.W.Frag, K.In h ∧ SaysX bx fn xs K
  of := fun _ _ e => ⟨_, frG_in, e⟩
  keeps := fun _ _ _ ⟨K, hK, c⟩ k => ⟨K, PySem.W.Frag.In.keeps hK k, c⟩
theorem obsXG_eq {n : Nat} {bx : PySem.W.Frag → Bool} {fn xs : List DefD} {g : Addr → Option Obj} {s : Shared} (h : ∀ a, g a = s.heap.get? a) : obsXG n bx fn xs g = (hookX n bx fn xs).obs s := by
  have e : g = s.heap.get? := funext h
  rw [e] <;> rfl
section
variable {bx : PySem.W.Frag → Bool} {fn xs : List DefD} {K : PySem.W.Frag}
theorem SaysX.all (c : SaysX bx fn xs K) : bx K = true := (ba (show (bx K && fn.all fun d => d.ok K) = true from congrArg (fun z : AlD => z.1) c)).1
theorem SaysX.two (c : SaysX bx fn xs K) : fn.map (fun d => fnW K d.at_) = fn.map DefD.val ∧ xs.map (fun d => fnC K d.at_) = xs.map valC :=
  List.append_inj (show (fn.map fun d => fnW K d.at_) ++ (xs.map fun d => fnC K d.at_) = fn.map DefD.val ++ xs.map valC from congrArg (fun z : AlD => z.2) c) (by rw [List.length_map, List.length_map])
theorem SaysX.def_ (c : SaysX bx fn xs K) (i : Nat) {d : DefD} (h : fn[i]? = some d := by rfl) : ∃ fd, FunD K d.name d.qual d.params d.body d.scope (d.dvs K) (d.kws K) (fAd K d.at_) fd := by
  have c2 := (ba (show (bx K && fn.all fun d => d.ok K) = true from congrArg (fun z : AlD => z.1) c)).2
  have e : fn.map (fun d => fnW K d.at_) = fn.map DefD.val := c.two.1
  have e2 : (fn.map fun d => fnW K d.at_)[i]? = (fn.map DefD.val)[i]? := by rw [e]
  rw [List.getElem?_map, List.getElem?_map, h] at e2
  exact DefD.funD (Option.some.inj e2) (List.all_eq_true.mp c2 d (List.mem_of_getElem? h))
theorem SaysX.cls_ (c : SaysX bx fn xs K) (i : Nat) {d : DefD} (h : xs[i]? = some d := by rfl) : fnC K d.at_ = valC d := by
  have e : xs.map (fun d => fnC K d.at_) = xs.map valC := c.two.2
  have e2 : (xs.map fun d => fnC K d.at_)[i]? = (xs.map valC)[i]? := by rw [e]
  rw [List.getElem?_map, List.getElem?_map, h] at e2
  exact Option.some.inj e2
end
/-- three looks at one state, each by itself -/
theorem map3 {σ α β γ : Type} {X : Option σ} {f1 : σ → α} {f2 : σ → β} {f3 : σ → γ} {a : α} {b : β} {c : γ} (h1 : X.map f1 = some a) (h2 : X.map f2 = some b) (h3 : X.map f3 = some c) : X.map (fun x => (f1 x, f2 x, f3 x)) = some (a, b, c) := by
  cases X with
  | none => cases h1
  | some x =>
    have e1 : f1 x = a := Option.some.inj h1
    have e2 : f2 x = b := Option.some.inj h2
    have e3 : f3 x = c := Option.some.inj h3
    show some (f1 x, f2 x, f3 x) = some (a, b, c)
    rw [e1, e2, e3]
theorem map2X {σ : Type} {X : Option σ} {n : Nat} {bx : PySem.W.Frag → Bool} {fn xs : List DefD} {g : σ → Addr → Option Obj} (h1 : X.map (fun x => (obsXG n bx [] [] (g x)).1) = some true) (h2 : X.map (fun x => obsXG n (fun _ => true) fn xs (g x)) = some (valX fn xs)) : X.map (fun x => obsXG n bx fn xs (g x)) = some (valX fn xs) := by
  cases X with
  | none => cases h1
  | some x =>
    have e1 : (obsXG n bx [] [] (g x)).1 = true := Option.some.inj h1
    have e2 : obsXG n (fun _ => true) fn xs (g x) = valX fn xs := Option.some.inj h2
    have e3 : bx (frG (g x) (lkX (g x) n)) = true := (ba (show (bx (frG (g x) (lkX (g x) n)) && ([] : List DefD).all fun d => d.ok (frG (g x) (lkX (g x) n))) = true from e1)).1
    refine congrArg some (Eq.trans ?_ e2)
    show ((bx _ && _, _) : AlD) = ((true && _, _) : AlD)
    rw [e3]
end BR
end
section
set_option Elab.async false
set_option linter.all false
set_option maxRecDepth 100000
set_option maxHeartbeats 4000000
/-! BrOwnD: a look at an own error. -/
namespace BR
open PySem PySem.W PySem.Spec PyProof.Rows L2 He
def codeB (K : PySem.W.Frag) (f C : Addr) (qual file : Str) : Bool := match K.lookup f with
  | some ⟨_, _, .func fd, _⟩ => codeIn K fd.code qual && ((match fd.defaults with
    | .none => true
    | _ => false) && ((match fd.code with
    | .ref cda => (match K.lookup cda with
      | some ⟨_, _, .fields vs, _⟩ => (match vs.toList with
        | _ :: _ :: .str z _ :: _ => decide (z = file)
        | _ => false)
      | _ => false)
    | _ => false) && (match fd.closure with
    | [(_, cc)] => (match K.lookup cc with
      | some ⟨_, _, .cell (some (.ref b)), _⟩ => decide (b = C)
      | _ => false)
    | _ => false)))
  | _ => false
def excB (K : PySem.W.Frag) (C : Addr) : Bool := match K.lookup C with
  | some ⟨.type t, _, .cls cd, sl⟩ => (match cd.mro, sl.toList with
    | .ref C' :: bm, [_, _, _, _, some (.builtin n), _] => decide (t = "type") && (decide (C' = C) && (decide (n = "ValueError.__new__") && (!cd.hasDel && (cd.hasDict && PySem.HandSPX.refsVE bm))))
    | _, _ => false)
  | _ => false
def ownB (K : PySem.W.Frag) (p : Str × Option Str) (C : Addr) (fld qual file : Str) : Bool :=
  decide (findIn K (.ref C) "__setattr__" = some (some (.builtin "object.__setattr__"))) && (decide (subIn K (.ref C) (.type "BaseException") = some true) && (decide (typeIn K (.ref C) = some (.type "type")) && (keepIn K (.ref C) && (decide (findIn K (.ref C) "__init__" = some (some (.ref (fAd K p)))) && (decide (typeIn K (.ref (fAd K p)) = some (.type "function")) && (decide (nsIn K cStatics "thirdparty.any" = some none) && (decide (ks_superIn K C C "__init__" = some (some (.builtin "ValueError.__init__"))) && (decide (subIn K (.ref C) (.type "ValueError") = some true) && (decide (findIn K (.ref C) fld = some none) && (decide (mroIn K C (.ref C) = some true) && (codeB K (fAd K p) C qual file && excB K C)))))))))))
end BR
end
section
set_option Elab.async false
set_option linter.all false
set_option maxRecDepth 100000
/-! K87Prog.lean: the small texts of the defs (printed by gen.py). -/
namespace K87
open PySem BR
/-- law -/
def b_law : S := (.seq (.set (.nm 1) (.call 1 (.cons (.var 0) (.cons (.int 818) .nil)))) (.seq (.set (.nm 2) (.tup (.cons (.bin .add (.int 1) (.call 2 (.cons (.var 1) (.cons (.int 3) .nil)))) (.cons (.bin .add (.int 1) (.call 2 (.cons (.var 1) (.cons (.int 3) .nil)))) (.cons (.call 2 (.cons (.var 1) (.cons (.int 7) .nil))) .nil))))) (.seq (.set (.nm 3) (.call 3 (.cons (.var 1) (.cons (.bin .add (.int 1) (.call 2 (.cons (.var 1) (.cons (.int 3) .nil)))) .nil)))) (.seq (.set (.nm 4) (.call 4 (.cons (.var 1) (.cons (.var 2) (.cons (.bin .add (.int 1) (.call 2 (.cons (.var 1) (.cons (.int 3) .nil)))) (.cons (.var 3) .nil)))))) (.seq (.set (.nm 5) (.call 5 (.cons (.var 1) (.cons (.var 4) (.cons (.call 2 (.cons (.var 1) (.cons (.int 6) .nil))) (.cons (.bin .add (.int 1) (.call 2 (.cons (.var 1) (.cons (.int 5) .nil)))) (.cons (.int 12) .nil))))))) (.seq (.set (.nm 6) (.idx (.tup (.cons (.int 1) (.cons (.int 1) (.cons (.int 2) (.cons (.int 1) (.cons (.int 7) (.cons (.int 33) .nil))))))) (.call 2 (.cons (.var 1) (.cons (.int 6) .nil))))) (.seq (.set (.nm 7) (.call 6 (.cons (.bin .mul (.bin .add (.int 1) (.call 2 (.cons (.var 1) (.cons (.int 9) .nil)))) (.var 6)) (.cons (.bin .add (.int 1) (.call 2 (.cons (.var 1) (.cons (.int 5) .nil)))) .nil)))) (.seq (.set (.nm 4) (.call 7 (.cons (.var 4) (.cons (.var 6) .nil)))) (.seq (.set (.nm 8) (.blt .tuple (.cons (.lc (.seq (.idx (.var 5) (.int 0))) (.nm 13) (.tup (.cons (.call 6 (.cons (.bin .mul (.idx (.idx (.var 13) (.int 0)) (.int 0)) (.var 6)) (.cons (.idx (.idx (.var 13) (.int 0)) (.int 1)) .nil))) (.cons (.idx (.var 13) (.int 1)) .nil))) [("_law_entry", 13)]) .nil))) (.seq (.set (.nm 9) (.call 8 (.cons (.var 4) .nil))) (.seq (.set (.nm 10) (.tup (.cons (.var 8) (.cons (.idx (.var 5) (.int 1)) (.cons (.tup (.cons (.int 0) (.cons (.int 1) .nil))) .nil))))) (.seq (.ifs (.or (.not (.call 9 (.cons (.var 9) (.cons (.var 10) (.cons (.blt .len (.cons (.var 8) .nil)) .nil))))) (.one (.not (.call 9 (.cons (.var 9) (.cons (.var 10) (.cons (.bin .sub (.int 0) (.int 1)) .nil))))))) (.seq (.ret (.bl false)) .skip) .skip) (.seq (.ifs (.cmp .eq (.blt .len (.cons (.var 8) .nil)) (.int 0)) (.seq (.ret (.bl true)) .skip) .skip) (.seq (.set (.nm 11) (.call 10 (.cons (.var 9) (.cons (.idx (.var 5) (.int 1)) .nil)))) (.seq (.ifs (.not (.call 11 (.cons (.var 11) (.cons (.bin .add (.blt .len (.cons (.var 8) .nil)) (.int 2)) .nil)))) (.seq (.ret (.bl false)) .skip) .skip) (.seq (.wipe [12]) (.seq (.fors (.nm 12) (.rng1 (.blt .len (.cons (.var 8) .nil))) (.seq (.ifs (.not (.call 12 (.cons (.var 4) (.cons (.var 9) (.cons (.var 11) (.cons (.var 10) (.cons (.var 12) (.cons (.var 7) .nil)))))))) (.seq (.ret (.bl false)) .skip) .skip) (.seq (.wipe [12]) .skip))) (.seq (.ret (.bl true)) .skip))))))))))))))))))
def d_law : Fd := ⟨1, false, [], 14, b_law⟩
abbrev f_law : Nat := 0
def n_law : List Str := (["_law_script", "_law_box_here", "_law_sizes", "_law_deeds", "_law_card_here", "_law_led_here", "_law_scale", "_law_more", "_law_row", "_law_gate_here", "_law_run", "_law_table", "_law_place", "_law_entry"] : List Str)
/-- _law_box -/
def b__law_box : S := (.seq (.ret (.cell (.lst (.cons (.lc (.seq (.slH (.var 0) (.int 63))) (.nm 2) (.blt .abs (.cons (.var 2) .nil)) [("_law_cell", 2)]) (.cons (.int 0) (.cons (.int 0) (.cons (.var 1) (.cons (.int 0) .nil)))))))) .skip)
def d__law_box : Fd := ⟨2, false, [], 3, b__law_box⟩
abbrev f__law_box : Nat := 1
def n__law_box : List Str := (["_law_script", "_law_seed", "_law_cell"] : List Str)
/-- _law_take -/
def b__law_take : S := (.seq (.ifs (.and (.cmp .eq (.idx (.var 0) (.int 2)) (.int 0)) (.one (.cmp .lt (.idx (.var 0) (.int 1)) (.blt .len (.cons (.idx (.var 0) (.int 0)) .nil))))) (.seq (.set (.nm 2) (.idx (.idx (.var 0) (.int 0)) (.idx (.var 0) (.int 1)))) (.seq (.setix (.var 0) (.int 1) (.bin .add (.idx (.var 0) (.int 1)) (.int 1))) (.seq (.ifs (.cmp .ge (.var 2) (.bin .pow (.int 10) (.int 18))) (.seq (.setix (.var 0) (.int 2) (.var 2)) .skip) (.seq (.setix (.var 0) (.int 3) (.bin .mod (.blt .int (.cons (.bin .add (.bin .add (.bin .mul (.idx (.var 0) (.int 3)) (.int 48271)) (.bin .mul (.var 2) (.int 7919))) (.int 1)) .nil)) (.int 2147483629))) .skip)) .skip))) .skip) (.seq (.ifs (.cmp .gt (.idx (.var 0) (.int 2)) (.int 0)) (.seq (.set (.nm 3) (.bin .mod (.blt .int (.cons (.idx (.var 0) (.int 2)) .nil)) (.var 1))) (.seq (.setix (.var 0) (.int 2) (.bin .fdiv (.idx (.var 0) (.int 2)) (.var 1))) (.seq (.ret (.var 3)) .skip))) .skip) (.seq (.setix (.var 0) (.int 4) (.bin .add (.idx (.var 0) (.int 4)) (.int 1))) (.seq (.setix (.var 0) (.int 3) (.bin .mod (.blt .int (.cons (.bin .add (.bin .add (.bin .mul (.idx (.var 0) (.int 3)) (.int 69621)) (.bin .mul (.idx (.var 0) (.int 4)) (.int 40692))) (.int 17)) .nil)) (.int 2147483647))) (.seq (.set (.nm 4) (.bin .mod (.blt .int (.cons (.bin .add (.bin .mul (.bin .fdiv (.idx (.var 0) (.int 3)) (.int 7)) (.int 48271)) (.bin .mod (.blt .int (.cons (.idx (.var 0) (.int 3)) .nil)) (.int 9973))) .nil)) (.int 1000000007))) (.seq (.ret (.bin .mod (.blt .int (.cons (.bin .fdiv (.var 4) (.int 32)) .nil)) (.var 1))) .skip))))))
def d__law_take : Fd := ⟨2, false, [], 5, b__law_take⟩
abbrev f__law_take : Nat := 2
def n__law_take : List Str := (["_law_box_here", "_law_many", "_law_cell", "_law_digit", "_law_mixed"] : List Str)
/-- _law_words -/
def b__law_words : S := (.seq (.set (.nm 2) (.str "abcdefghijklmnopqrstuvwxyz")) (.seq (.set (.nm 3) (.bm (.str "") .join (.lc (.rng1 (.call 2 (.cons (.var 0) (.cons (.int 4) .nil)))) (.nm 8) (.idx (.var 2) (.call 2 (.cons (.var 0) (.cons (.int 26) .nil)))) [("_law_k", 8)]))) (.seq (.set (.nm 4) (.call 2 (.cons (.var 0) (.cons (.bin .add (.blt .len (.cons (.var 3) .nil)) (.int 1)) .nil)))) (.seq (.set (.nm 5) (.call 2 (.cons (.var 0) (.cons (.int 26) .nil)))) (.seq (.set (.nm 6) (.call 2 (.cons (.var 0) (.cons (.int 64) .nil)))) (.seq (.set (.nm 7) (.cell (.lst .nil))) (.seq (.wipe [8, 9]) (.seq (.fors (.nm 8) (.rng1 (.var 1)) (.seq (.set (.nm 9) (.bin .mul (.idx (.var 2) (.var 5)) (.bin .mod (.blt .int (.cons (.var 6) .nil)) (.int 2)))) (.seq (.app (.var 7) (.bin .add (.bin .add (.bin .add (.slH (.var 3) (.var 4)) (.idx (.var 2) (.bin .mod (.blt .int (.cons (.bin .add (.var 5) (.bin .mul (.int 5) (.var 8))) .nil)) (.int 26)))) (.slL (.var 3) (.var 4))) (.var 9))) (.seq (.set (.nm 6) (.bin .fdiv (.var 6) (.int 2))) (.seq (.wipe [8, 9]) .skip))))) (.seq (.ret (.frz 7)) .skip)))))))))
def d__law_words : Fd := ⟨2, false, [], 10, b__law_words⟩
abbrev f__law_words : Nat := 3
def n__law_words : List Str := (["_law_box_here", "_law_many", "_law_letters", "_law_word", "_law_place", "_law_first", "_law_mask", "_law_words_here", "_law_k", "_law_tail"] : List Str)
/-- _law_card -/
def b__law_card : S := (.seq (.set (.nm 4) (.call 3 (.cons (.var 0) (.cons (.bin .add (.bin .add (.int 1) (.idx (.var 1) (.int 0))) (.idx (.var 1) (.int 1))) .nil)))) (.seq (.set (.nm 5) (.blt .tuplei (.cons (.slB (.var 4) (.int 1) (.bin .add (.int 1) (.idx (.var 1) (.int 0)))) .nil))) (.seq (.set (.nm 6) (.call 13 (.cons (.var 0) (.cons (.slL (.var 4) (.bin .add (.int 1) (.idx (.var 1) (.int 0)))) .nil)))) (.seq (.set (.nm 7) (.blt .tuple (.cons (.lc (.seq (.var 6)) (.nm 12) (.tup (.cons (.var 12) (.cons (.call 14 (.cons (.var 0) (.cons (.var 5) (.cons (.var 2) .nil)))) .nil))) [("_law_name", 12)]) .nil))) (.seq (.set (.nm 8) (.cell (.lst .nil))) (.seq (.wipe [9, 10, 11]) (.seq (.fors (.nm 9) (.rng1 (.idx (.var 1) (.int 2))) (.seq (.set (.nm 10) (.call 15 (.cons (.var 0) (.cons (.var 5) (.cons (.var 6) (.cons (.var 3) (.cons (.var 2) .nil))))))) (.seq (.set (.nm 11) (.call 2 (.cons (.var 0) (.cons (.int 4) .nil)))) (.seq (.ifs (.and (.cmp .eq (.var 9) (.int 0)) (.one (.cmp .gt (.var 11) (.int 0)))) (.seq (.set (.nm 10) (.bin .add (.tup (.cons (.idx (.var 6) (.int 0)) .nil)) (.slL (.var 10) (.int 1)))) .skip) .skip) (.seq (.ifs (.and (.cmp .gt (.var 9) (.int 0)) (.one (.cmp .eq (.var 11) (.int 0)))) (.seq (.set (.nm 10) (.bin .add (.tup (.cons (.idx (.idx (.var 8) (.neg (.int 1))) (.int 4)) .nil)) (.slL (.var 10) (.int 1)))) .skip) .skip) (.seq (.app (.var 8) (.var 10)) (.seq (.wipe [9, 10, 11]) .skip))))))) (.seq (.ret (.tup (.cons (.idx (.var 4) (.int 0)) (.cons (.var 5) (.cons (.var 7) (.cons (.blt .tuple (.cons (.var 8) .nil)) (.cons (.call 16 (.cons (.var 0) (.cons (.var 3) .nil))) .nil))))))) .skip))))))))
def d__law_card : Fd := ⟨4, false, [], 13, b__law_card⟩
abbrev f__law_card : Nat := 4
def n__law_card : List Str := (["_law_box_here", "_law_sizes", "_law_top", "_law_deeds", "_law_words_here", "_law_clocks", "_law_names", "_law_states", "_law_steps", "_law_k", "_law_step_here", "_law_pick", "_law_name"] : List Str)
/-- _law_led -/
def b__law_led : S := (.seq (.set (.nm 5) (.tup .nil)) (.seq (.set (.nm 6) (.tup .nil)) (.seq (.set (.nm 7) (.tup (.cons (.int 0) (.cons (.int 1) .nil)))) (.seq (.set (.nm 8) (.call 17 (.cons (.var 1) .nil))) (.seq (.wipe [9, 10, 11, 12, 13, 14, 15, 16, 17]) (.seq (.fors (.nm 9) (.rng1 (.var 2)) (.seq (.set (.nm 10) (.bin .mul (.call 2 (.cons (.var 0) (.cons (.bin .add (.bin .mul (.int 2) (.var 3)) (.int 1)) .nil))) (.call 2 (.cons (.var 0) (.cons (.int 2) .nil))))) (.seq (.set (.nm 11) (.call 2 (.cons (.var 0) (.cons (.int 12) .nil)))) (.seq (.set (.nm 12) (.bl false)) (.seq (.wipe [13, 14, 15, 16, 17]) (.seq (.fors (.nm 13) (.rng1 (.bin .add (.bin .mul (.int 2) (.var 3)) (.int 1))) (.seq (.set (.nm 14) (.call 6 (.cons (.bin .mod (.blt .int (.cons (.bin .add (.var 10) (.var 13)) .nil)) (.bin .add (.bin .mul (.int 2) (.var 3)) (.int 1))) (.cons (.var 3) .nil)))) (.seq (.ifs (.and (.not (.var 12)) (.one (.not (.call 18 (.cons (.tup (.cons (.var 4) (.cons (.int 1) .nil))) (.cons (.call 19 (.cons (.var 7) (.cons (.var 14) .nil))) .nil)))))) (.seq (.set (.nm 15) (.call 20 (.cons (.var 1) (.cons (.var 8) (.cons (.var 14) .nil))))) (.seq (.set (.nm 16) (.lst .nil)) (.seq (.ifs (.cmp .notN (.var 15) .non) (.seq (.set (.nm 16) (.call 21 (.cons (.var 1) (.cons (.var 15) .nil)))) .skip) .skip) (.seq (.ifs (.cmp .gt (.blt .len (.cons (.var 16) .nil)) (.int 0)) (.seq (.set (.nm 17) (.idx (.var 16) (.bin .mod (.blt .int (.cons (.var 11) .nil)) (.blt .len (.cons (.var 16) .nil))))) (.seq (.set (.nm 12) (.bl true)) (.seq (.set (.nm 7) (.call 19 (.cons (.var 7) (.cons (.var 14) .nil)))) (.seq (.set (.nm 5) (.bin .add (.var 5) (.tup (.cons (.tup (.cons (.var 7) (.cons (.idx (.idx (.idx (.var 1) (.int 3)) (.var 17)) (.int 1)) .nil))) .nil)))) (.seq (.set (.nm 6) (.bin .add (.var 6) (.tup (.cons (.var 17) .nil)))) (.seq (.set (.nm 8) (.call 22 (.cons (.var 1) (.cons (.var 15) (.cons (.idx (.idx (.var 1) (.int 3)) (.var 17)) .nil))))) .skip)))))) .skip) .skip)))) .skip) (.seq (.wipe [13, 14, 15, 16, 17]) .skip)))) (.seq (.ifs (.not (.var 12)) (.seq (.ret (.tup (.cons (.var 5) (.cons (.var 6) (.cons (.var 8) .nil))))) .skip) .skip) (.seq (.wipe [9, 10, 11, 12, 13, 14, 15, 16, 17]) .skip)))))))) (.seq (.ret (.tup (.cons (.var 5) (.cons (.var 6) (.cons (.var 8) .nil))))) .skip)))))))
def d__law_led : Fd := ⟨5, false, [], 18, b__law_led⟩
abbrev f__law_led : Nat := 5
def n__law_led : List Str := (["_law_box_here", "_law_card_here", "_law_many", "_law_parts", "_law_until", "_law_row", "_law_path", "_law_now", "_law_standing", "_law_turn", "_law_first", "_law_pick", "_law_going", "_law_k", "_law_gap_here", "_law_moved_here", "_law_let_here", "_law_step_here"] : List Str)
/-- _law_low -/
def b__law_low : S := (.seq (.set (.nm 2) (.var 0)) (.seq (.set (.nm 3) (.var 1)) (.seq (.wipe [4]) (.seq (.whil (.cmp .gt (.var 3) (.int 0)) (.seq (.set (.nm 4) (.bin .mod (.blt .int (.cons (.var 2) .nil)) (.var 3))) (.seq (.set (.nm 2) (.var 3)) (.seq (.set (.nm 3) (.var 4)) (.seq (.wipe [4]) .skip))))) (.seq (.ret (.tup (.cons (.bin .fdiv (.var 0) (.var 2)) (.cons (.bin .fdiv (.var 1) (.var 2)) .nil)))) .skip)))))
def d__law_low : Fd := ⟨2, false, [], 5, b__law_low⟩
abbrev f__law_low : Nat := 6
def n__law_low : List Str := (["_law_top", "_law_low_here", "_law_one", "_law_other", "_law_part"] : List Str)
/-- _law_scaled -/
def b__law_scaled : S := (.seq (.set (.nm 2) (.cell (.lst .nil))) (.seq (.wipe [3, 4]) (.seq (.fors (.nm 3) (.seq (.idx (.var 0) (.int 2))) (.seq (.set (.nm 4) (.blt .tuple (.cons (.lc (.seq (.idx (.var 3) (.int 1))) (.nm 8) (.tup (.cons (.idx (.var 8) (.int 0)) (.cons (.call 23 (.cons (.idx (.var 8) (.int 1)) (.cons (.var 1) .nil))) .nil))) [("_law_pair", 8)]) .nil))) (.seq (.app (.var 2) (.tup (.cons (.idx (.var 3) (.int 0)) (.cons (.var 4) .nil)))) (.seq (.wipe [3, 4]) .skip)))) (.seq (.set (.nm 5) (.cell (.lst .nil))) (.seq (.wipe [6, 7, 8, 9]) (.seq (.fors (.nm 6) (.seq (.idx (.var 0) (.int 3))) (.seq (.set (.nm 7) (.cell (.lst .nil))) (.seq (.wipe [8, 9]) (.seq (.fors (.nm 8) (.seq (.idx (.var 6) (.int 2))) (.seq (.set (.nm 9) (.call 23 (.cons (.idx (.idx (.var 8) (.int 1)) (.int 0)) (.cons (.var 1) .nil)))) (.seq (.app (.var 7) (.tup (.cons (.idx (.var 8) (.int 0)) (.cons (.tup (.cons (.var 9) (.cons (.call 23 (.cons (.idx (.idx (.var 8) (.int 1)) (.int 1)) (.cons (.var 1) .nil))) .nil))) .nil)))) (.seq (.wipe [8, 9]) .skip)))) (.seq (.app (.var 5) (.tup (.cons (.idx (.var 6) (.int 0)) (.cons (.idx (.var 6) (.int 1)) (.cons (.blt .tuple (.cons (.var 7) .nil)) (.cons (.idx (.var 6) (.int 3)) (.cons (.idx (.var 6) (.int 4)) .nil))))))) (.seq (.wipe [6, 7, 8, 9]) .skip)))))) (.seq (.ret (.tup (.cons (.idx (.var 0) (.int 0)) (.cons (.idx (.var 0) (.int 1)) (.cons (.blt .tuple (.cons (.var 2) .nil)) (.cons (.blt .tuple (.cons (.var 5) .nil)) (.cons (.idx (.var 0) (.int 4)) .nil))))))) .skip)))))))
def d__law_scaled : Fd := ⟨2, false, [], 10, b__law_scaled⟩
abbrev f__law_scaled : Nat := 7
def n__law_scaled : List Str := (["_law_card_here", "_law_scale", "_law_states", "_law_state", "_law_stay_here", "_law_steps", "_law_step_here", "_law_test_here", "_law_pair", "_law_low_here"] : List Str)
/-- _law_gate -/
def b__law_gate : S := (.seq (.ret (.mk 0 (.cons (.idx (.var 0) (.int 0)) (.cons (.idx (.var 0) (.int 1)) (.cons (.idx (.var 0) (.int 2)) (.cons (.idx (.var 0) (.int 3)) (.cons (.idx (.var 0) (.int 4)) .nil))))))) .skip)
def d__law_gate : Fd := ⟨1, false, [], 1, b__law_gate⟩
abbrev f__law_gate : Nat := 8
def n__law_gate : List Str := (["_law_card_here"] : List Str)
/-- _law_no_place -/
def b__law_no_place : S := (.seq (.tryr (.seq (.ex (.call 25 (.cons (.var 0) (.cons (.idx (.var 1) (.int 0)) (.cons (.idx (.var 1) (.int 1)) (.cons (.var 2) .nil)))))) .skip) 1 3 2 2) (.seq (.ret (.bl false)) .skip))
def d__law_no_place : Fd := ⟨3, false, [], 4, b__law_no_place⟩
abbrev f__law_no_place : Nat := 9
def n__law_no_place : List Str := (["_law_gate_here", "_law_run", "_law_place", "raised"] : List Str)
/-- path_table -/
def b_path_table : S := (.seq (.set (.nm 3) (.call 26 (.cons (.var 0) (.cons (.var 1) .nil)))) (.seq (.ifs (.cmp .isN (.var 3) .non) (.seq (.ret .non) .skip) .skip) (.seq (.set (.nm 4) (.call 27 (.cons (.var 0) (.cons (.var 1) (.cons (.blt .len (.cons (.var 1) .nil)) (.cons (.var 2) .nil)))))) (.seq (.ret (.call 28 (.cons (.call 29 (.cons (.bin .add (.blt .len (.cons (.var 1) .nil)) (.int 1)) (.star (.var 3) (.star (.var 4) .nil)))) .nil))) .skip))))
def d_path_table : Fd := ⟨2, false, [.tup []], 5, b_path_table⟩
abbrev f_path_table : Nat := 10
def n_path_table : List Str := (["gate", "path", "tests", "conditions", "ends"] : List Str)
/-- _law_is_table -/
def b__law_is_table : S := (.seq (.ifs (.or (.not (.isi (.var 0) .tuple)) (.one (.cmp .ne (.blt .len (.cons (.var 0) .nil)) (.var 1)))) (.seq (.ret (.bl false)) .skip) .skip) (.seq (.wipe [2]) (.seq (.fors (.nm 2) (.seq (.var 0)) (.seq (.ifs (.or (.not (.isi (.var 2) .tuple)) (.one (.cmp .ne (.blt .len (.cons (.var 2) .nil)) (.var 1)))) (.seq (.ret (.bl false)) .skip) .skip) (.seq (.ifs (.not (.blt .all (.cons (.lc (.seq (.var 2)) (.nm 3) (.call 30 (.cons (.var 3) .nil)) [("_law_one", 3)]) .nil))) (.seq (.ret (.bl false)) .skip) .skip) (.seq (.wipe [2]) .skip)))) (.seq (.ret (.bl true)) .skip))))
def d__law_is_table : Fd := ⟨2, false, [], 4, b__law_is_table⟩
abbrev f__law_is_table : Nat := 11
def n__law_is_table : List Str := (["_law_thing", "_law_size", "_law_line", "_law_one"] : List Str)
/-- _law_place_holds -/
def b__law_place_holds : S := (.seq (.set (.nm 6) (.idx (.var 3) (.int 0))) (.seq (.set (.nm 7) (.bin .add (.bin .add (.lst (.cons (.tup (.cons (.int 0) (.cons (.int 1) .nil))) .nil)) (.lc (.seq (.var 6)) (.nm 14) (.idx (.var 14) (.int 0)) [("_law_entry", 14)])) (.lst (.cons (.idx (.idx (.var 6) (.neg (.int 1))) (.int 0)) .nil)))) (.seq (.set (.nm 8) (.call 25 (.cons (.var 1) (.cons (.var 6) (.cons (.idx (.var 3) (.int 1)) (.cons (.var 4) .nil)))))) (.seq (.ifs (.or (.not (.isi (.var 8) .tuple)) (.or (.cmp .ne (.blt .len (.cons (.var 8) .nil)) (.int 2)) (.one (.not (.call 31 (.cons (.idx (.var 8) (.int 0)) .nil)))))) (.seq (.ret (.bl false)) .skip) .skip) (.seq (.ifs (.and (.cmp .notN (.idx (.var 8) (.int 1)) .non) (.one (.not (.call 31 (.cons (.idx (.var 8) (.int 1)) .nil))))) (.seq (.ret (.bl false)) .skip) .skip) (.seq (.ifs (.cmp .ne (.var 8) (.call 32 (.cons (.var 2) (.cons (.var 7) (.cons (.var 4) .nil))))) (.seq (.ret (.bl false)) .skip) .skip) (.seq (.wipe [9, 10, 11, 12, 13]) (.seq (.fors (.nm 9) (.seq (.call 37 (.cons (.var 8) (.cons (.var 5) .nil)))) (.seq (.set (.nm 10) (.call 33 (.cons (.var 6) (.cons (.var 4) (.cons (.var 9) .nil))))) (.seq (.set (.nm 11) (.cmp .notN (.call 34 (.cons (.var 0) (.cons (.tup (.cons (.var 10) (.cons (.idx (.var 3) (.int 1)) (.cons (.tup (.cons (.int 0) (.cons (.int 1) .nil))) .nil)))) .nil))) .non)) (.seq (.ifs (.cmp .ne (.var 11) (.call 35 (.cons (.var 9) (.cons (.var 8) .nil)))) (.seq (.ret (.bl false)) .skip) .skip) (.seq (.set (.nm 12) (.blt .tuple (.cons (.bin .add (.lc (.seq (.var 10)) (.nm 14) (.idx (.var 14) (.int 0)) [("_law_entry", 14)]) (.lst (.cons (.idx (.idx (.var 10) (.neg (.int 1))) (.int 0)) .nil))) .nil))) (.seq (.set (.nm 13) (.call 36 (.cons (.var 2) (.cons (.var 12) .nil)))) (.seq (.ifs (.or (.not (.isi (.var 13) .bool)) (.one (.cmp .ne (.var 13) (.var 11)))) (.seq (.ret (.bl false)) .skip) .skip) (.seq (.wipe [9, 10, 11, 12, 13]) .skip)))))))) (.seq (.ret (.bl true)) .skip)))))))))
def d__law_place_holds : Fd := ⟨6, false, [], 15, b__law_place_holds⟩
abbrev f__law_place_holds : Nat := 12
def n__law_place_holds : List Str := (["_law_card_here", "_law_gate_here", "_law_table", "_law_run", "_law_place", "_law_more", "_law_row", "_law_readings", "_law_told", "_law_gap_here", "_law_moved_here", "_law_let_here", "_law_kept", "_law_answered", "_law_entry"] : List Str)
/-- _law_dotted -/
def b__law_dotted : S := (.seq (.ifs (.cmp .eq (.call 2 (.cons (.var 0) (.cons (.int 4) .nil))) (.int 1)) (.seq (.ret (.lc (.seq (.var 1)) (.nm 2) (.bin .add (.bin .add (.slH (.var 2) (.int 1)) (.str ".")) (.var 2)) [("_law_word", 2)])) .skip) .skip) (.seq (.ret (.var 1)) .skip))
def d__law_dotted : Fd := ⟨2, false, [], 3, b__law_dotted⟩
abbrev f__law_dotted : Nat := 13
def n__law_dotted : List Str := (["_law_box_here", "_law_words_here", "_law_word"] : List Str)
/-- _law_stay -/
def b__law_stay : S := (.seq (.set (.nm 3) (.cell (.lst .nil))) (.seq (.wipe [4, 5]) (.seq (.fors (.nm 4) (.seq (.var 1)) (.seq (.ifs (.cmp .gt (.call 2 (.cons (.var 0) (.cons (.int 5) .nil))) (.int 2)) (.seq (.set (.nm 5) (.tup (.cons (.call 2 (.cons (.var 0) (.cons (.bin .add (.var 2) (.int 1)) .nil))) (.cons (.call 2 (.cons (.var 0) (.cons (.int 2) .nil))) .nil)))) (.seq (.ifs (.cmp .eq (.var 5) (.tup (.cons (.int 0) (.cons (.int 0) .nil)))) (.seq (.set (.nm 5) (.tup (.cons (.var 2) (.cons (.int 1) .nil)))) .skip) .skip) (.seq (.app (.var 3) (.tup (.cons (.var 4) (.cons (.var 5) .nil)))) .skip))) .skip) (.seq (.wipe [4, 5]) .skip))) (.seq (.ret (.blt .tuple (.cons (.var 3) .nil))) .skip))))
def d__law_stay : Fd := ⟨3, false, [], 6, b__law_stay⟩
abbrev f__law_stay : Nat := 14
def n__law_stay : List Str := (["_law_box_here", "_law_clocks", "_law_top", "_law_pairs", "_law_clock", "_law_edge"] : List Str)
/-- _law_step -/
def b__law_step : S := (.seq (.set (.nm 5) (.idx (.var 2) (.call 2 (.cons (.var 0) (.cons (.blt .len (.cons (.var 2) .nil)) .nil))))) (.seq (.set (.nm 6) (.idx (.var 2) (.call 2 (.cons (.var 0) (.cons (.blt .len (.cons (.var 2) .nil)) .nil))))) (.seq (.set (.nm 7) (.idx (.var 3) (.call 2 (.cons (.var 0) (.cons (.blt .len (.cons (.var 3) .nil)) .nil))))) (.seq (.set (.nm 8) (.call 38 (.cons (.var 0) (.cons (.var 1) (.cons (.var 4) .nil))))) (.seq (.ret (.tup (.cons (.var 5) (.cons (.var 7) (.cons (.var 8) (.cons (.call 16 (.cons (.var 0) (.cons (.var 1) .nil))) (.cons (.var 6) .nil))))))) .skip)))))
def d__law_step : Fd := ⟨5, false, [], 9, b__law_step⟩
abbrev f__law_step : Nat := 15
def n__law_step : List Str := (["_law_box_here", "_law_clocks", "_law_states", "_law_deeds", "_law_top", "_law_source", "_law_target", "_law_deed", "_law_test_here"] : List Str)
/-- _law_some -/
def b__law_some : S := (.seq (.set (.nm 2) (.cell (.lst .nil))) (.seq (.wipe [3]) (.seq (.fors (.nm 3) (.seq (.var 1)) (.seq (.ifs (.cmp .eq (.call 2 (.cons (.var 0) (.cons (.int 2) .nil))) (.int 1)) (.seq (.app (.var 2) (.var 3)) .skip) .skip) (.seq (.wipe [3]) .skip))) (.seq (.ret (.blt .tuple (.cons (.var 2) .nil))) .skip))))
def d__law_some : Fd := ⟨2, false, [], 4, b__law_some⟩
abbrev f__law_some : Nat := 16
def n__law_some : List Str := (["_law_box_here", "_law_things", "_law_some_here", "_law_thing"] : List Str)
/-- _law_begin -/
def b__law_begin : S := (.seq (.ret (.tup (.cons (.idx (.idx (.idx (.var 0) (.int 2)) (.int 0)) (.int 0)) (.cons (.blt .tuple (.cons (.lc (.seq (.idx (.var 0) (.int 1))) (.nm 1) (.tup (.cons (.int 0) (.cons (.int 1) .nil))) [("_law_clock", 1)]) .nil)) .nil)))) .skip)
def d__law_begin : Fd := ⟨1, false, [], 2, b__law_begin⟩
abbrev f__law_begin : Nat := 17
def n__law_begin : List Str := (["_law_card_here", "_law_clock"] : List Str)
/-- _law_less -/
def b__law_less : S := (.seq (.ret (.cmp .lt (.bin .mul (.idx (.var 0) (.int 0)) (.idx (.var 1) (.int 1))) (.bin .mul (.idx (.var 1) (.int 0)) (.idx (.var 0) (.int 1))))) .skip)
def d__law_less : Fd := ⟨2, false, [], 2, b__law_less⟩
abbrev f__law_less : Nat := 18
def n__law_less : List Str := (["_law_one", "_law_other"] : List Str)
/-- _law_plus -/
def b__law_plus : S := (.seq (.ret (.call 6 (.cons (.bin .add (.bin .mul (.idx (.var 0) (.int 0)) (.idx (.var 1) (.int 1))) (.bin .mul (.idx (.var 1) (.int 0)) (.idx (.var 0) (.int 1)))) (.cons (.bin .mul (.idx (.var 0) (.int 1)) (.idx (.var 1) (.int 1))) .nil)))) .skip)
def d__law_plus : Fd := ⟨2, false, [], 2, b__law_plus⟩
abbrev f__law_plus : Nat := 19
def n__law_plus : List Str := (["_law_one", "_law_other"] : List Str)
/-- _law_rested -/
def b__law_rested : S := (.seq (.set (.nm 3) (.blt .tuple (.cons (.lc (.seq (.idx (.var 1) (.int 1))) (.nm 4) (.call 19 (.cons (.var 4) (.cons (.var 2) .nil))) [("_law_reading", 4)]) .nil))) (.seq (.ifs (.not (.call 39 (.cons (.var 0) (.cons (.idx (.var 1) (.int 0)) (.cons (.var 3) .nil))))) (.seq (.ret .non) .skip) .skip) (.seq (.ret (.tup (.cons (.idx (.var 1) (.int 0)) (.cons (.var 3) .nil)))) .skip)))
def d__law_rested : Fd := ⟨3, false, [], 5, b__law_rested⟩
abbrev f__law_rested : Nat := 20
def n__law_rested : List Str := (["_law_card_here", "_law_standing", "_law_gap_here", "_law_readings", "_law_reading"] : List Str)
/-- _law_let -/
def b__law_let : S := (.seq (.ret (.lcc (.rng1 (.blt .len (.cons (.idx (.var 0) (.int 3)) .nil))) (.nm 2) (.cmp .notN (.call 22 (.cons (.var 0) (.cons (.var 1) (.cons (.idx (.idx (.var 0) (.int 3)) (.var 2)) .nil)))) .non) (.var 2) [("_law_k", 2)])) .skip)
def d__law_let : Fd := ⟨2, false, [], 3, b__law_let⟩
abbrev f__law_let : Nat := 21
def n__law_let : List Str := (["_law_card_here", "_law_standing", "_law_k"] : List Str)
/-- _law_after -/
def b__law_after : S := (.seq (.ifs (.or (.cmp .ne (.idx (.var 2) (.int 0)) (.idx (.var 1) (.int 0))) (.one (.not (.call 40 (.cons (.var 0) (.cons (.idx (.var 2) (.int 2)) (.cons (.idx (.var 1) (.int 1)) .nil))))))) (.seq (.ret .non) .skip) .skip) (.seq (.set (.nm 3) (.cell (.lst .nil))) (.seq (.wipe [4]) (.seq (.fors (.nm 4) (.rng1 (.blt .len (.cons (.idx (.var 0) (.int 1)) .nil))) (.seq (.ifs (.cmp .inn (.idx (.idx (.var 0) (.int 1)) (.var 4)) (.idx (.var 2) (.int 3))) (.seq (.app (.var 3) (.tup (.cons (.int 0) (.cons (.int 1) .nil)))) .skip) (.seq (.app (.var 3) (.idx (.idx (.var 1) (.int 1)) (.var 4))) .skip)) (.seq (.wipe [4]) .skip))) (.seq (.ifs (.not (.call 39 (.cons (.var 0) (.cons (.idx (.var 2) (.int 4)) (.cons (.var 3) .nil))))) (.seq (.ret .non) .skip) .skip) (.seq (.ret (.tup (.cons (.idx (.var 2) (.int 4)) (.cons (.blt .tuple (.cons (.var 3) .nil)) .nil)))) .skip))))))
def d__law_after : Fd := ⟨3, false, [], 5, b__law_after⟩
abbrev f__law_after : Nat := 22
def n__law_after : List Str := (["_law_card_here", "_law_standing", "_law_step_here", "_law_readings", "_law_k"] : List Str)
/-- _law_scaled_edge -/
def b__law_scaled_edge : S := (.seq (.ifs (.cmp .isN (.var 0) .non) (.seq (.ret .non) .skip) .skip) (.seq (.ret (.tup (.cons (.bin .mul (.idx (.var 0) (.int 0)) (.var 1)) (.cons (.idx (.var 0) (.int 1)) .nil)))) .skip))
def d__law_scaled_edge : Fd := ⟨2, false, [], 2, b__law_scaled_edge⟩
abbrev f__law_scaled_edge : Nat := 23
def n__law_scaled_edge : List Str := (["_law_edge", "_law_scale"] : List Str)
/-- Gate.__init__ -/
def b_Gate_init : S := (.seq (.ex (.call 41 (.cons (.var 1) (.cons (.var 2) (.cons (.var 3) (.cons (.var 4) (.cons (.var 5) .nil))))))) (.seq (.setfl (.var 0) 3 (.var 1)) (.seq (.setfl (.var 0) 4 (.var 2)) (.seq (.setfl (.var 0) 5 (.var 3)) (.seq (.setfl (.var 0) 6 (.var 4)) (.seq (.setfl (.var 0) 7 (.var 5)) (.seq (.setfl (.var 0) 8 (.call 42 (.cons (.var 4) (.cons (.var 5) .nil)))) (.seq (.setfl (.var 0) 9 (.call 43 (.cons (.var 2) (.cons (.var 3) (.cons (.var 4) .nil))))) (.seq (.setfl (.var 0) 10 (.call 44 (.cons (.var 2) .nil))) (.seq (.setfl (.var 0) 11 (.call 44 (.cons (.lc (.seq (.var 3)) (.tup (.cons (.nm 6) (.cons (.nm 7) .nil))) (.var 6) [("state", 6), ("_", 7)]) .nil))) (.seq (.setfl (.var 0) 12 (.call 45 (.cons (.var 3) (.cons (.var 4) .nil)))) .skip)))))))))))
def d_Gate_init : Fd := ⟨6, false, [], 8, b_Gate_init⟩
abbrev f_Gate_init : Nat := 24
def n_Gate_init : List Str := (["self", "name", "clocks", "states", "steps", "also", "state", "_"] : List Str)
/-- slack -/
def b_slack : S := (.seq (.ex (.call 46 (.cons (.var 1) .nil))) (.seq (.ex (.call 47 (.cons (.var 0) (.cons (.tup (.cons (.var 1) (.cons (.var 2) (.cons (.glb 13) .nil)))) .nil)))) (.seq (.ifs (.not (.chain .le .lt (.int 0) (.var 3) (.blt .len (.cons (.var 1) .nil)))) (.seq (.rai 1 (.cons (.var 3) .nil)) .skip) .skip) (.seq (.set (.nm 4) (.bin .add (.bin .add (.lst (.cons (.glb 13) .nil)) (.lc (.seq (.var 1)) (.tup (.cons (.nm 12) (.cons (.nm 13) .nil))) (.var 12) [("moment", 12), ("_", 13)])) (.lst (.cons (.idx (.idx (.var 1) (.neg (.int 1))) (.int 0)) .nil)))) (.seq (.set (.nm 5) (.call 48 (.cons (.idx (.var 4) (.var 3)) (.cons (.idx (.var 4) (.bin .add (.var 3) (.int 1))) .nil)))) (.seq (.set (.nm 6) (.tup (.cons (.glb 13) (.cons (.int 1) .nil)))) (.seq (.set (.nm 7) .non) (.seq (.wipe [8, 9, 10, 11]) (.seq (.fors (.tup (.cons (.nm 8) (.cons (.nm 9) (.cons (.nm 10) .nil)))) (.seq (.call 26 (.cons (.var 0) (.cons (.var 2) .nil)))) (.seq (.ifs (.and (.cmp .notN (.var 10) .non) (.one (.chain .le .lt (.var 9) (.var 3) (.var 8)))) (.seq (.set (.nm 11) (.call 48 (.cons (.var 5) (.cons (.call 48 (.cons (.idx (.var 4) (.var 9)) (.cons (.idx (.var 4) (.var 8)) .nil))) .nil)))) (.seq (.set (.nm 7) (.call 49 (.cons (.var 7) (.cons (.call 50 (.cons (.var 11) (.cons (.var 10) .nil))) .nil)))) .skip)) (.seq (.ifs (.and (.cmp .notN (.var 10) .non) (.one (.chain .le .lt (.var 8) (.var 3) (.var 9)))) (.seq (.set (.nm 11) (.call 48 (.cons (.var 5) (.cons (.call 48 (.cons (.idx (.var 4) (.var 8)) (.cons (.idx (.var 4) (.var 9)) .nil))) .nil)))) (.seq (.set (.nm 6) (.call 51 (.cons (.var 6) (.cons (.call 52 (.cons (.var 11) (.cons (.var 10) .nil))) .nil)))) .skip)) .skip) .skip)) (.seq (.wipe [8, 9, 10, 11]) .skip))) (.seq (.ret (.tup (.cons (.var 6) (.cons (.var 7) .nil)))) .skip))))))))))
def d_slack : Fd := ⟨4, false, [], 14, b_slack⟩
abbrev f_slack : Nat := 25
def n_slack : List Str := (["gate", "row", "path", "place", "moments", "pause", "low", "high", "i", "j", "cap", "others", "moment", "_"] : List Str)
/-- path_conditions -/
def b_path_conditions : S := (.seq (.set (.nm 2) (.call 53 (.cons (.var 0) (.cons (.var 1) .nil)))) (.seq (.ifs (.cmp .isN (.var 2) .non) (.seq (.ret .non) .skip) .skip) (.seq (.set (.nm 3) (.cell (.lst .nil))) (.seq (.wipe [4, 5]) (.seq (.fors (.tup (.cons (.nm 4) (.cons (.nm 5) .nil))) (.enm (.var 2)) (.seq (.ifs (.cmp .lt (.var 4) (.blt .len (.cons (.var 1) .nil))) (.seq (.app (.var 3) (.tup (.cons (.bin .add (.var 4) (.int 1)) (.cons (.bin .add (.var 4) (.int 2)) (.cons (.tup (.cons (.int 0) (.cons (.int 1) .nil))) .nil))))) (.seq (.ext (.var 3) (.call 27 (.cons (.var 0) (.cons (.var 1) (.cons (.var 4) (.cons (.idx (.idx (.fld (.var 0) 6) (.idx (.var 1) (.var 4))) (.int 2)) .nil)))))) .skip)) .skip) (.seq (.ext (.var 3) (.call 54 (.cons (.var 0) (.cons (.var 1) (.cons (.var 4) (.cons (.var 5) .nil)))))) (.seq (.wipe [4, 5]) .skip)))) (.seq (.ret (.blt .tuple (.cons (.var 3) .nil))) .skip))))))
def d_path_conditions : Fd := ⟨2, false, [], 6, b_path_conditions⟩
abbrev f_path_conditions : Nat := 26
def n_path_conditions : List Str := (["gate", "path", "states", "conditions", "index", "state"] : List Str)
/-- _test_conditions -/
def b__test_conditions : S := (.seq (.set (.nm 4) (.cell (.lst .nil))) (.seq (.wipe [5, 6, 7, 8, 9]) (.seq (.fors (.tup (.cons (.nm 5) (.cons (.nm 6) .nil))) (.seq (.var 3)) (.seq (.set (.nm 7) (.call 55 (.cons (.var 0) (.cons (.var 1) (.cons (.var 2) (.cons (.meth (.var 0) 14 (.cons (.var 5) .nil)) .nil)))))) (.seq (.set (.tup (.cons (.nm 8) (.cons (.nm 9) .nil))) (.call 57 (.cons (.var 6) .nil))) (.seq (.app (.var 4) (.tup (.cons (.var 7) (.cons (.bin .add (.var 2) (.int 1)) (.cons (.var 9) .nil))))) (.seq (.ifs (.cmp .notN (.var 8) .non) (.seq (.app (.var 4) (.tup (.cons (.bin .add (.var 2) (.int 1)) (.cons (.var 7) (.cons (.var 8) .nil))))) .skip) .skip) (.seq (.wipe [5, 6, 7, 8, 9]) .skip)))))) (.seq (.ret (.frz 4)) .skip))))
def d__test_conditions : Fd := ⟨4, false, [], 10, b__test_conditions⟩
abbrev f__test_conditions : Nat := 27
def n__test_conditions : List Str := (["gate", "path", "index", "test", "conditions", "clock", "span", "reset", "upper", "lower"] : List Str)
/-- close -/
def b_close : S := (.seq (.set (.nm 1) (.call 58 (.cons (.var 0) .nil))) (.seq (.wipe [2, 3]) (.seq (.fors (.nm 2) (.rng1 (.blt .len (.cons (.var 0) .nil))) (.seq (.set (.nm 3) (.idx (.var 1) (.var 2))) (.seq (.ifs (.cmp .lt (.idx (.var 3) (.var 2)) (.glb 15)) (.seq (.ret .non) .skip) .skip) (.seq (.set (.nm 1) (.blt .tuple (.cons (.lc (.seq (.var 1)) (.nm 4) (.call 59 (.cons (.var 4) (.cons (.idx (.var 4) (.var 2)) (.cons (.var 3) .nil)))) [("row", 4)]) .nil))) (.seq (.wipe [2, 3]) .skip))))) (.seq (.ret (.var 1)) .skip))))
def d_close : Fd := ⟨1, false, [], 5, b_close⟩
abbrev f_close : Nat := 28
def n_close : List Str := (["table", "rows", "k", "through", "row"] : List Str)
/-- table_with -/
def b_table_with : S := (.seq (.wipe [2]) (.seq (.fors (.nm 2) (.seq (.var 1)) (.seq (.ifs (.not (.call 60 (.cons (.var 0) (.cons (.var 2) .nil)))) .unre .skip) (.seq (.wipe [2]) .skip))) (.seq (.set (.nm 3) (.blt .tuple (.cons (.bin .mul (.lst (.cons .non .nil)) (.bin .add (.var 0) (.int 1))) .nil))) (.seq (.ret (.call 61 (.cons (.blt .tuple (.cons (.bin .mul (.lst (.cons (.var 3) .nil)) (.bin .add (.var 0) (.int 1))) .nil)) (.cons (.var 1) .nil)))) .skip))))
def d_table_with : Fd := ⟨1, true, [], 4, b_table_with⟩
abbrev f_table_with : Nat := 29
def n_table_with : List Str := (["clocks", "conditions", "condition", "row"] : List Str)
/-- _law_is_cap -/
def b__law_is_cap : S := (.seq (.ifs (.cmp .isN (.var 0) .non) (.seq (.ret (.bl true)) .skip) .skip) (.seq (.ifs (.or (.not (.isi (.var 0) .tuple)) (.one (.cmp .ne (.blt .len (.cons (.var 0) .nil)) (.int 2)))) (.seq (.ret (.bl false)) .skip) .skip) (.seq (.ret (.and (.call 62 (.cons (.idx (.var 0) (.int 0)) .nil)) (.and (.call 62 (.cons (.idx (.var 0) (.int 1)) .nil)) (.one (.chain .le .le (.int 0) (.idx (.var 0) (.int 1)) (.int 1)))))) .skip)))
def d__law_is_cap : Fd := ⟨1, false, [], 1, b__law_is_cap⟩
abbrev f__law_is_cap : Nat := 30
def n__law_is_cap : List Str := (["_law_thing"] : List Str)
/-- _law_is_bound -/
def b__law_is_bound : S := (.seq (.ifs (.or (.not (.isi (.var 0) .tuple)) (.one (.cmp .ne (.blt .len (.cons (.var 0) .nil)) (.int 2)))) (.seq (.ret (.bl false)) .skip) .skip) (.seq (.ret (.and (.call 63 (.cons (.idx (.var 0) (.int 0)) .nil)) (.and (.call 62 (.cons (.idx (.var 0) (.int 1)) .nil)) (.one (.chain .le .le (.int 0) (.idx (.var 0) (.int 1)) (.int 1)))))) .skip))
def d__law_is_bound : Fd := ⟨1, false, [], 1, b__law_is_bound⟩
abbrev f__law_is_bound : Nat := 31
def n__law_is_bound : List Str := (["_law_thing"] : List Str)
/-- _law_piece -/
def b__law_piece : S := (.seq (.set (.nm 3) .non) (.seq (.set (.nm 4) .non) (.seq (.wipe [5, 6, 7, 8]) (.seq (.fors (.nm 5) (.rng2 (.bin .add (.var 2) (.int 1)) (.blt .len (.cons (.var 1) .nil))) (.seq (.wipe [6, 7, 8]) (.seq (.fors (.nm 6) (.rng1 (.bin .add (.var 2) (.int 1))) (.seq (.set (.nm 7) (.idx (.idx (.var 0) (.var 5)) (.var 6))) (.seq (.ifs (.cmp .notN (.var 7) .non) (.seq (.set (.nm 8) (.call 64 (.cons (.var 1) (.cons (.var 2) (.cons (.var 5) (.cons (.var 6) (.cons (.idx (.var 7) (.int 0)) .nil))))))) (.seq (.ifs (.or (.cmp .isN (.var 4) .non) (.or (.call 18 (.cons (.var 8) (.cons (.idx (.var 4) (.int 0)) .nil))) (.one (.and (.cmp .eq (.var 8) (.idx (.var 4) (.int 0))) (.one (.cmp .lt (.idx (.var 7) (.int 1)) (.idx (.var 4) (.int 1)))))))) (.seq (.set (.nm 4) (.tup (.cons (.var 8) (.cons (.idx (.var 7) (.int 1)) .nil)))) .skip) .skip) .skip)) .skip) (.seq (.set (.nm 7) (.idx (.idx (.var 0) (.var 6)) (.var 5))) (.seq (.ifs (.cmp .notN (.var 7) .non) (.seq (.set (.nm 8) (.call 64 (.cons (.var 1) (.cons (.var 2) (.cons (.var 5) (.cons (.var 6) (.cons (.bin .sub (.int 0) (.idx (.var 7) (.int 0))) .nil))))))) (.seq (.ifs (.or (.cmp .isN (.var 3) .non) (.or (.call 18 (.cons (.idx (.var 3) (.int 0)) (.cons (.var 8) .nil))) (.one (.and (.cmp .eq (.var 8) (.idx (.var 3) (.int 0))) (.one (.cmp .lt (.idx (.var 7) (.int 1)) (.idx (.var 3) (.int 1)))))))) (.seq (.set (.nm 3) (.tup (.cons (.var 8) (.cons (.idx (.var 7) (.int 1)) .nil)))) .skip) .skip) .skip)) .skip) (.seq (.wipe [6, 7, 8]) .skip)))))) (.seq (.wipe [5, 6, 7, 8]) .skip)))) (.seq (.ret (.tup (.cons (.var 3) (.cons (.var 4) .nil)))) .skip)))))
def d__law_piece : Fd := ⟨3, false, [], 9, b__law_piece⟩
abbrev f__law_piece : Nat := 32
def n__law_piece : List Str := (["_law_table", "_law_readings", "_law_place", "_law_low_here", "_law_high", "_law_late", "_law_early", "_law_cap", "_law_worth"] : List Str)
/-- _law_moved -/
def b__law_moved : S := (.seq (.set (.nm 3) (.tup (.cons (.int 0) (.cons (.int 1) .nil)))) (.seq (.ifs (.cmp .gt (.var 1) (.int 0)) (.seq (.set (.nm 3) (.idx (.idx (.var 0) (.bin .sub (.var 1) (.int 1))) (.int 0))) .skip) .skip) (.seq (.set (.nm 4) (.cell (.lst .nil))) (.seq (.wipe [5, 6]) (.seq (.fors (.nm 5) (.rng1 (.blt .len (.cons (.var 0) .nil))) (.seq (.set (.nm 6) (.idx (.idx (.var 0) (.var 5)) (.int 0))) (.seq (.ifs (.cmp .ge (.var 5) (.var 1)) (.seq (.set (.nm 6) (.call 19 (.cons (.call 19 (.cons (.var 3) (.cons (.var 2) .nil))) (.cons (.call 65 (.cons (.idx (.idx (.var 0) (.var 1)) (.int 0)) (.cons (.var 6) .nil))) .nil)))) .skip) .skip) (.seq (.app (.var 4) (.tup (.cons (.var 6) (.cons (.idx (.idx (.var 0) (.var 5)) (.int 1)) .nil)))) (.seq (.wipe [5, 6]) .skip))))) (.seq (.ret (.blt .tuple (.cons (.var 4) .nil))) .skip))))))
def d__law_moved : Fd := ⟨3, false, [], 7, b__law_moved⟩
abbrev f__law_moved : Nat := 33
def n__law_moved : List Str := (["_law_row", "_law_place", "_law_gap_here", "_law_before", "_law_moved_here", "_law_k", "_law_when"] : List Str)
/-- _law_run_end -/
def b__law_run_end : S := (.seq (.ifs (.or (.not (.isi (.var 1) .tuple)) (.one (.cmp .ne (.blt .len (.cons (.var 1) .nil)) (.int 3)))) (.seq (.ret .non) .skip) .skip) (.seq (.ifs (.or (.not (.call 66 (.cons (.idx (.var 1) (.int 0)) .nil))) (.or (.not (.isi (.idx (.var 1) (.int 1)) .tuple)) (.one (.not (.call 63 (.cons (.idx (.var 1) (.int 2)) .nil)))))) (.seq (.ret .non) .skip) .skip) (.seq (.ifs (.cmp .ne (.blt .len (.cons (.idx (.var 1) (.int 0)) .nil)) (.blt .len (.cons (.idx (.var 1) (.int 1)) .nil))) (.seq (.ret .non) .skip) .skip) (.seq (.set (.nm 2) (.call 17 (.cons (.var 0) .nil))) (.seq (.set (.nm 3) (.tup (.cons (.int 0) (.cons (.int 1) .nil)))) (.seq (.wipe [4, 5]) (.seq (.fors (.nm 4) (.rng1 (.blt .len (.cons (.idx (.var 1) (.int 0)) .nil))) (.seq (.set (.nm 5) (.idx (.idx (.var 1) (.int 1)) (.var 4))) (.seq (.ifs (.or (.not (.call 62 (.cons (.var 5) .nil))) (.or (.cmp .lt (.var 5) (.int 0)) (.one (.cmp .ge (.var 5) (.blt .len (.cons (.idx (.var 0) (.int 3)) .nil)))))) (.seq (.ret .non) .skip) .skip) (.seq (.set (.nm 2) (.call 20 (.cons (.var 0) (.cons (.var 2) (.cons (.call 65 (.cons (.var 3) (.cons (.idx (.idx (.idx (.var 1) (.int 0)) (.var 4)) (.int 0)) .nil))) .nil))))) (.seq (.ifs (.or (.cmp .isN (.var 2) .non) (.one (.cmp .ne (.idx (.idx (.idx (.var 0) (.int 3)) (.var 5)) (.int 1)) (.idx (.idx (.idx (.var 1) (.int 0)) (.var 4)) (.int 1))))) (.seq (.ret .non) .skip) .skip) (.seq (.set (.nm 2) (.call 22 (.cons (.var 0) (.cons (.var 2) (.cons (.idx (.idx (.var 0) (.int 3)) (.var 5)) .nil))))) (.seq (.ifs (.cmp .isN (.var 2) .non) (.seq (.ret .non) .skip) .skip) (.seq (.set (.nm 3) (.idx (.idx (.idx (.var 1) (.int 0)) (.var 4)) (.int 0))) (.seq (.wipe [4, 5]) .skip))))))))) (.seq (.ret (.call 20 (.cons (.var 0) (.cons (.var 2) (.cons (.idx (.var 1) (.int 2)) .nil))))) .skip))))))))
def d__law_run_end : Fd := ⟨2, false, [], 6, b__law_run_end⟩
abbrev f__law_run_end : Nat := 34
def n__law_run_end : List Str := (["_law_card_here", "_law_run", "_law_standing", "_law_now", "_law_k", "_law_step_here"] : List Str)
/-- _law_within -/
def b__law_within : S := (.seq (.set (.nm 2) (.idx (.var 1) (.int 0))) (.seq (.set (.nm 3) (.idx (.var 1) (.int 1))) (.seq (.ifs (.or (.call 18 (.cons (.var 0) (.cons (.idx (.var 2) (.int 0)) .nil))) (.one (.and (.cmp .eq (.var 0) (.idx (.var 2) (.int 0))) (.one (.cmp .eq (.idx (.var 2) (.int 1)) (.int 0)))))) (.seq (.ret (.bl false)) .skip) .skip) (.seq (.ifs (.or (.cmp .isN (.var 3) .non) (.one (.call 18 (.cons (.var 0) (.cons (.idx (.var 3) (.int 0)) .nil))))) (.seq (.ret (.bl true)) .skip) .skip) (.seq (.ret (.and (.cmp .eq (.var 0) (.idx (.var 3) (.int 0))) (.one (.cmp .eq (.idx (.var 3) (.int 1)) (.int 1))))) .skip)))))
def d__law_within : Fd := ⟨2, false, [], 4, b__law_within⟩
abbrev f__law_within : Nat := 35
def n__law_within : List Str := (["_law_gap_here", "_law_told", "_law_low_here", "_law_high"] : List Str)
/-- keeps -/
def b_keeps : S := (.seq (.set (.nm 2) (.bin .sub (.blt .len (.cons (.var 0) .nil)) (.int 1))) (.seq (.ifs (.cmp .ne (.blt .len (.cons (.var 1) .nil)) (.var 2)) .unre .skip) (.seq (.set (.nm 3) (.bin .add (.tup (.cons (.glb 16) .nil)) (.var 1))) (.seq (.wipe [4, 5, 6, 7]) (.seq (.fors (.tup (.cons (.nm 4) (.cons (.nm 5) .nil))) (.zip (.var 0) (.var 3)) (.seq (.wipe [6, 7]) (.seq (.fors (.tup (.cons (.nm 6) (.cons (.nm 7) .nil))) (.zip (.var 4) (.var 3)) (.seq (.ifs (.not (.call 67 (.cons (.var 6) (.cons (.var 5) (.cons (.var 7) .nil))))) (.seq (.ret (.bl false)) .skip) .skip) (.seq (.wipe [6, 7]) .skip))) (.seq (.wipe [4, 5, 6, 7]) .skip)))) (.seq (.ret (.bl true)) .skip))))))
def d_keeps : Fd := ⟨2, false, [], 8, b_keeps⟩
abbrev f_keeps : Nat := 36
def n_keeps : List Str := (["table", "readings", "clocks", "values", "row", "first", "cap", "second"] : List Str)
/-- _law_tried -/
def b__law_tried : S := (.seq (.set (.nm 2) (.idx (.idx (.var 0) (.int 0)) (.int 0))) (.seq (.set (.nm 3) (.cell (.lst (.cons (.var 2) (.cons (.tup (.cons (.idx (.var 2) (.int 0)) (.cons (.bin .mul (.int 2) (.idx (.var 2) (.int 1))) .nil))) (.cons (.call 19 (.cons (.var 2) (.cons (.var 1) .nil))) (.cons (.call 19 (.cons (.var 2) (.cons (.tup (.cons (.int 1) (.cons (.int 1000) .nil))) .nil))) (.cons (.var 1) .nil)))))))) (.seq (.ifs (.cmp .notN (.idx (.var 0) (.int 1)) .non) (.seq (.set (.nm 4) (.idx (.idx (.var 0) (.int 1)) (.int 0))) (.seq (.set (.nm 3) (.cell (.bin .add (.frz 3) (.lst (.cons (.var 4) (.cons (.call 19 (.cons (.var 4) (.cons (.var 1) .nil))) (.cons (.call 19 (.cons (.var 4) (.cons (.tup (.cons (.int 1) (.cons (.int 1000) .nil))) .nil))) .nil))))))) (.seq (.app (.var 3) (.call 68 (.cons (.lst (.cons (.tup (.cons (.idx (.var 2) (.int 0)) (.cons (.bin .mul (.int 2) (.idx (.var 2) (.int 1))) .nil))) (.cons (.tup (.cons (.idx (.var 4) (.int 0)) (.cons (.bin .mul (.int 2) (.idx (.var 4) (.int 1))) .nil))) .nil))) .nil))) .skip))) (.seq (.app (.var 3) (.call 19 (.cons (.var 2) (.cons (.tup (.cons (.int 90) (.cons (.int 1) .nil))) .nil)))) .skip)) (.seq (.ret (.lc (.seq (.var 3)) (.nm 5) (.call 6 (.cons (.idx (.var 5) (.int 0)) (.cons (.idx (.var 5) (.int 1)) .nil))) [("_law_gap_here", 5)])) .skip))))
def d__law_tried : Fd := ⟨2, false, [], 6, b__law_tried⟩
abbrev f__law_tried : Nat := 37
def n__law_tried : List Str := (["_law_told", "_law_more", "_law_low_here", "_law_tried_here", "_law_high", "_law_gap_here"] : List Str)
/-- _law_test -/
def b__law_test : S := (.seq (.set (.nm 3) (.cell (.lst .nil))) (.seq (.wipe [4]) (.seq (.fors (.nm 4) (.seq (.var 1)) (.seq (.ifs (.cmp .gt (.call 2 (.cons (.var 0) (.cons (.int 5) .nil))) (.int 1)) (.seq (.app (.var 3) (.tup (.cons (.var 4) (.cons (.call 69 (.cons (.var 0) (.cons (.var 2) .nil))) .nil)))) .skip) .skip) (.seq (.wipe [4]) .skip))) (.seq (.ret (.blt .tuple (.cons (.var 3) .nil))) .skip))))
def d__law_test : Fd := ⟨3, false, [], 5, b__law_test⟩
abbrev f__law_test : Nat := 38
def n__law_test : List Str := (["_law_box_here", "_law_clocks", "_law_top", "_law_pairs", "_law_clock"] : List Str)
/-- _law_stays -/
def b__law_stays : S := (.seq (.wipe [3, 4, 5]) (.seq (.fors (.nm 3) (.seq (.call 70 (.cons (.var 0) (.cons (.var 1) .nil)))) (.seq (.set (.nm 4) (.idx (.var 2) (.bm (.idx (.var 0) (.int 1)) .index (.idx (.var 3) (.int 0))))) (.seq (.set (.nm 5) (.bin .mul (.idx (.idx (.var 3) (.int 1)) (.int 0)) (.idx (.var 4) (.int 1)))) (.seq (.ifs (.or (.cmp .gt (.idx (.var 4) (.int 0)) (.var 5)) (.one (.and (.cmp .eq (.idx (.var 4) (.int 0)) (.var 5)) (.one (.cmp .eq (.idx (.idx (.var 3) (.int 1)) (.int 1)) (.int 0)))))) (.seq (.ret (.bl false)) .skip) .skip) (.seq (.wipe [3, 4, 5]) .skip))))) (.seq (.ret (.bl true)) .skip)))
def d__law_stays : Fd := ⟨3, false, [], 6, b__law_stays⟩
abbrev f__law_stays : Nat := 39
def n__law_stays : List Str := (["_law_card_here", "_law_state", "_law_readings", "_law_pair", "_law_reading", "_law_limit"] : List Str)
/-- _law_holds -/
def b__law_holds : S := (.seq (.wipe [3]) (.seq (.fors (.nm 3) (.seq (.var 1)) (.seq (.ifs (.not (.call 71 (.cons (.idx (.var 2) (.bm (.idx (.var 0) (.int 1)) .index (.idx (.var 3) (.int 0)))) (.cons (.idx (.var 3) (.int 1)) .nil)))) (.seq (.ret (.bl false)) .skip) .skip) (.seq (.wipe [3]) .skip))) (.seq (.ret (.bl true)) .skip)))
def d__law_holds : Fd := ⟨3, false, [], 4, b__law_holds⟩
abbrev f__law_holds : Nat := 40
def n__law_holds : List Str := (["_law_card_here", "_law_test_here", "_law_readings", "_law_pair"] : List Str)
/-- _check_parts -/
def b__check_parts : S := (.seq (.ifs (.not (.call 72 (.cons (.var 0) .nil))) .unre .skip) (.seq (.set (.nm 5) (.call 73 (.cons (.var 1) .nil))) (.seq (.ifs (.cmp .notN (.var 5) .non) .unre .skip) (.seq (.set (.nm 5) (.call 74 (.cons (.var 2) (.cons (.var 1) .nil)))) (.seq (.ifs (.cmp .notN (.var 5) .non) .unre .skip) (.seq (.set (.nm 5) (.call 75 (.cons (.var 3) (.cons (.var 1) (.cons (.lc (.seq (.var 2)) (.tup (.cons (.nm 6) (.cons (.nm 7) .nil))) (.var 6) [("state", 6), ("_", 7)]) .nil))))) (.seq (.ifs (.cmp .notN (.var 5) .non) .unre .skip) (.seq (.set (.nm 5) (.call 76 (.cons (.var 4) (.cons (.glb 17) .nil)))) (.seq (.ifs (.cmp .notN (.var 5) .non) .unre .skip) .skip)))))))))
def d__check_parts : Fd := ⟨5, false, [], 8, b__check_parts⟩
abbrev f__check_parts : Nat := 41
def n__check_parts : List Str := (["name", "clocks", "states", "steps", "also", "wrong", "state", "_"] : List Str)
/-- _deeds_in -/
def b__deeds_in : S := (.seq (.set (.nm 2) (.cell .newd)) (.seq (.wipe [3]) (.seq (.fors (.nm 3) (.seq (.var 0)) (.seq (.setix (.var 2) (.idx (.var 3) (.int 1)) (.bl true)) (.seq (.wipe [3]) .skip))) (.seq (.wipe [4]) (.seq (.fors (.nm 4) (.seq (.var 1)) (.seq (.setix (.var 2) (.var 4) (.bl true)) (.seq (.wipe [4]) .skip))) (.seq (.ret (.blt .tuple (.cons (.blt .sorted (.cons (.blt .list (.cons (.var 2) .nil)) .nil)) .nil))) .skip))))))
def d__deeds_in : Fd := ⟨2, false, [], 5, b__deeds_in⟩
abbrev f__deeds_in : Nat := 42
def n__deeds_in : List Str := (["steps", "also", "found", "step", "deed"] : List Str)
/-- _ceilings_in -/
def b__ceilings_in : S := (.seq (.set (.nm 3) (.cell .newd)) (.seq (.wipe [4]) (.seq (.fors (.nm 4) (.seq (.var 0)) (.seq (.setix (.var 3) (.var 4) (.int 0)) (.seq (.wipe [4]) .skip))) (.seq (.wipe [4, 5, 6, 7]) (.seq (.fors (.tup (.cons (.nm 5) (.cons (.nm 6) .nil))) (.seq (.var 1)) (.seq (.wipe [4, 7]) (.seq (.fors (.tup (.cons (.nm 4) (.cons (.nm 7) .nil))) (.seq (.var 6)) (.seq (.setix (.var 3) (.var 4) (.blt .max (.cons (.idx (.var 3) (.var 4)) (.cons (.idx (.var 7) (.int 0)) .nil)))) (.seq (.wipe [4, 7]) .skip))) (.seq (.wipe [4, 5, 6, 7]) .skip)))) (.seq (.wipe [4, 8, 9, 10, 11]) (.seq (.fors (.nm 8) (.seq (.var 2)) (.seq (.wipe [4, 9, 10, 11]) (.seq (.fors (.tup (.cons (.nm 4) (.cons (.tup (.cons (.nm 9) (.cons (.nm 10) .nil))) .nil))) (.seq (.idx (.var 8) (.int 2))) (.seq (.set (.nm 11) (.ite (.cmp .isN (.var 10) .non) (.idx (.var 9) (.int 0)) (.idx (.var 10) (.int 0)))) (.seq (.setix (.var 3) (.var 4) (.blt .max (.cons (.idx (.var 3) (.var 4)) (.cons (.var 11) .nil)))) (.seq (.wipe [4, 9, 10, 11]) .skip)))) (.seq (.wipe [4, 8, 9, 10, 11]) .skip)))) (.seq (.ret (.blt .tuple (.cons (.lc (.seq (.var 0)) (.nm 4) (.idx (.var 3) (.var 4)) [("clock", 4)]) .nil))) .skip))))))))
def d__ceilings_in : Fd := ⟨3, false, [], 12, b__ceilings_in⟩
abbrev f__ceilings_in : Nat := 43
def n__ceilings_in : List Str := (["clocks", "states", "steps", "greatest", "clock", "_", "stay", "edge", "step", "low", "high", "limit"] : List Str)
/-- _places_of -/
def b__places_of : S := (.seq (.set (.nm 1) (.cell .newd)) (.seq (.wipe [2, 3]) (.seq (.fors (.tup (.cons (.nm 2) (.cons (.nm 3) .nil))) (.enm (.var 0)) (.seq (.setix (.var 1) (.var 3) (.var 2)) (.seq (.wipe [2, 3]) .skip))) (.seq (.ret (.frz 1)) .skip))))
def d__places_of : Fd := ⟨1, false, [], 4, b__places_of⟩
abbrev f__places_of : Nat := 44
def n__places_of : List Str := (["names", "places", "index", "name"] : List Str)
/-- _steps_by_source -/
def b__steps_by_source : S := (.seq (.set (.nm 2) (.cell .newd)) (.seq (.wipe [3, 4]) (.seq (.fors (.tup (.cons (.nm 3) (.cons (.nm 4) .nil))) (.seq (.var 0)) (.seq (.setix (.var 2) (.var 3) (.cell (.lst .nil))) (.seq (.wipe [3, 4]) .skip))) (.seq (.wipe [5, 6]) (.seq (.fors (.tup (.cons (.nm 5) (.cons (.nm 6) .nil))) (.enm (.var 1)) (.seq (.app (.idx (.var 2) (.idx (.var 6) (.int 0))) (.var 5)) (.seq (.wipe [5, 6]) .skip))) (.seq (.ret (.blt .tuple (.cons (.lc (.seq (.var 0)) (.tup (.cons (.nm 3) (.cons (.nm 4) .nil))) (.blt .tuple (.cons (.idx (.var 2) (.var 3)) .nil)) [("state", 3), ("_", 4)]) .nil))) .skip))))))
def d__steps_by_source : Fd := ⟨2, false, [], 7, b__steps_by_source⟩
abbrev f__steps_by_source : Nat := 45
def n__steps_by_source : List Str := (["states", "steps", "leaving", "state", "_", "index", "step"] : List Str)
/-- check_row -/
def b_check_row : S := (.seq (.set (.nm 1) (.call 78 (.cons (.var 0) .nil))) (.seq (.ifs (.cmp .notN (.var 1) .non) (.seq (.rai 1 (.cons (.var 1) .nil)) .skip) .skip) .skip))
def d_check_row : Fd := ⟨1, false, [], 2, b_check_row⟩
abbrev f_check_row : Nat := 46
def n_check_row : List Str := (["row", "wrong"] : List Str)
/-- standing_after -/
def b_standing_after : S := (.seq (.set (.tup (.cons (.nm 2) (.cons (.nm 3) (.cons (.nm 4) .nil)))) (.var 1)) (.seq (.set (.nm 5) (.call 79 (.cons (.var 0) .nil))) (.seq (.wipe [6, 7]) (.seq (.fors (.tup (.cons (.nm 6) (.cons (.nm 7) .nil))) (.enm (.call 82 (.cons (.var 2) .nil))) (.seq (.set (.nm 5) (.call 80 (.cons (.var 0) (.cons (.var 5) (.cons (.var 7) .nil))))) (.seq (.ifs (.and (.cmp .notN (.var 5) .non) (.one (.cmp .eq (.idx (.idx (.fld (.var 0) 6) (.idx (.var 3) (.var 6))) (.int 1)) (.idx (.idx (.var 2) (.var 6)) (.int 1))))) (.seq (.set (.nm 5) (.call 81 (.cons (.var 0) (.cons (.var 5) (.cons (.idx (.var 3) (.var 6)) .nil))))) .skip) (.seq (.set (.nm 5) .non) .skip)) (.seq (.ifs (.cmp .isN (.var 5) .non) .unre .skip) (.seq (.wipe [6, 7]) .skip))))) (.seq (.set (.nm 8) (.call 80 (.cons (.var 0) (.cons (.var 5) (.cons (.var 4) .nil))))) (.seq (.ifs (.cmp .isN (.var 8) .non) .unre .skip) (.seq (.ret (.var 8)) .skip)))))))
def d_standing_after : Fd := ⟨2, false, [], 9, b_standing_after⟩
abbrev f_standing_after : Nat := 47
def n_standing_after : List Str := (["gate", "run", "row", "path", "wait", "standing", "index", "pause", "ending"] : List Str)
/-- since -/
def b_since : S := (.seq (.set (.nm 2) (.bin .sub (.bin .mul (.idx (.var 1) (.int 0)) (.idx (.var 0) (.int 1))) (.bin .mul (.idx (.var 0) (.int 0)) (.idx (.var 1) (.int 1))))) (.seq (.ifs (.cmp .lt (.var 2) (.int 0)) .unre .skip) (.seq (.ret (.call 83 (.cons (.var 2) (.cons (.bin .mul (.idx (.var 0) (.int 1)) (.idx (.var 1) (.int 1))) .nil)))) .skip)))
def d_since : Fd := ⟨2, false, [], 3, b_since⟩
abbrev f_since : Nat := 48
def n_since : List Str := (["first", "second", "difference"] : List Str)
/-- _lesser_high -/
def b__lesser_high : S := (.seq (.ifs (.cmp .isN (.var 0) .non) (.seq (.ret (.var 1)) .skip) .skip) (.seq (.set (.nm 2) (.call 84 (.cons (.idx (.var 0) (.int 0)) (.cons (.idx (.var 1) (.int 0)) .nil)))) (.seq (.ifs (.or (.cmp .lt (.var 2) (.int 0)) (.one (.and (.cmp .eq (.var 2) (.int 0)) (.one (.cmp .eq (.idx (.var 0) (.int 1)) (.int 0)))))) (.seq (.ret (.var 0)) .skip) .skip) (.seq (.ret (.var 1)) .skip))))
def d__lesser_high : Fd := ⟨2, false, [], 3, b__lesser_high⟩
abbrev f__lesser_high : Nat := 49
def n__lesser_high : List Str := (["first", "second", "order"] : List Str)
/-- _high_beside -/
def b__high_beside : S := (.seq (.set (.tup (.cons (.nm 2) (.cons (.nm 3) .nil))) (.var 1)) (.seq (.ret (.tup (.cons (.call 48 (.cons (.var 0) (.cons (.tup (.cons (.var 2) (.cons (.int 1) .nil))) .nil))) (.cons (.var 3) .nil)))) .skip))
def d__high_beside : Fd := ⟨2, false, [], 4, b__high_beside⟩
abbrev f__high_beside : Nat := 50
def n__high_beside : List Str := (["others", "cap", "limit", "reach"] : List Str)
/-- _greater_low -/
def b__greater_low : S := (.seq (.set (.nm 2) (.call 84 (.cons (.idx (.var 0) (.int 0)) (.cons (.idx (.var 1) (.int 0)) .nil)))) (.seq (.ifs (.or (.cmp .gt (.var 2) (.int 0)) (.one (.and (.cmp .eq (.var 2) (.int 0)) (.one (.cmp .eq (.idx (.var 0) (.int 1)) (.int 0)))))) (.seq (.ret (.var 0)) .skip) .skip) (.seq (.ret (.var 1)) .skip)))
def d__greater_low : Fd := ⟨2, false, [], 3, b__greater_low⟩
abbrev f__greater_low : Nat := 51
def n__greater_low : List Str := (["first", "second", "order"] : List Str)
/-- _low_beside -/
def b__low_beside : S := (.seq (.set (.tup (.cons (.nm 2) (.cons (.nm 3) .nil))) (.var 1)) (.seq (.set (.nm 4) (.tup (.cons (.neg (.var 2)) (.cons (.int 1) .nil)))) (.seq (.ifs (.cmp .gt (.call 84 (.cons (.var 0) (.cons (.var 4) .nil))) (.int 0)) (.seq (.ret (.tup (.cons (.glb 13) (.cons (.int 1) .nil)))) .skip) .skip) (.seq (.ret (.tup (.cons (.call 48 (.cons (.var 0) (.cons (.var 4) .nil))) (.cons (.var 3) .nil)))) .skip))))
def d__low_beside : Fd := ⟨2, false, [], 5, b__low_beside⟩
abbrev f__low_beside : Nat := 52
def n__low_beside : List Str := (["others", "cap", "limit", "reach", "due"] : List Str)
/-- _states_along -/
def b__states_along : S := (.seq (.set (.nm 2) (.cell (.lst (.cons (.idx (.idx (.fld (.var 0) 5) (.int 0)) (.int 0)) .nil)))) (.seq (.wipe [3, 4, 5, 6]) (.seq (.fors (.nm 3) (.seq (.var 1)) (.seq (.set (.tup (.cons (.nm 4) (.cons (.nm 5) (.cons (.nm 5) (.cons (.nm 5) (.cons (.nm 6) .nil)))))) (.idx (.fld (.var 0) 6) (.var 3))) (.seq (.ifs (.cmp .ne (.var 4) (.idx (.var 2) (.neg (.int 1)))) (.seq (.ret .non) .skip) .skip) (.seq (.app (.var 2) (.var 6)) (.seq (.wipe [3, 4, 5, 6]) .skip))))) (.seq (.ret (.frz 2)) .skip))))
def d__states_along : Fd := ⟨2, false, [], 7, b__states_along⟩
abbrev f__states_along : Nat := 53
def n__states_along : List Str := (["gate", "path", "states", "step", "source", "_", "target"] : List Str)
/-- _stay_conditions -/
def b__stay_conditions : S := (.seq (.set (.nm 4) (.cell (.lst .nil))) (.seq (.wipe [5, 6, 7]) (.seq (.fors (.tup (.cons (.nm 5) (.cons (.nm 6) .nil))) (.seq (.meth (.var 0) 18 (.cons (.var 3) .nil))) (.seq (.set (.nm 7) (.call 55 (.cons (.var 0) (.cons (.var 1) (.cons (.var 2) (.cons (.meth (.var 0) 14 (.cons (.var 5) .nil)) .nil)))))) (.seq (.app (.var 4) (.tup (.cons (.bin .add (.var 2) (.int 1)) (.cons (.var 7) (.cons (.var 6) .nil))))) (.seq (.wipe [5, 6, 7]) .skip)))) (.seq (.ret (.frz 4)) .skip))))
def d__stay_conditions : Fd := ⟨4, false, [], 8, b__stay_conditions⟩
abbrev f__stay_conditions : Nat := 54
def n__stay_conditions : List Str := (["gate", "path", "index", "state", "conditions", "clock", "edge", "reset"] : List Str)
/-- last_reset -/
def b_last_reset : S := (.seq (.set (.nm 4) (.idx (.fld (.var 0) 4) (.bin .sub (.var 3) (.int 1)))) (.seq (.wipe [5]) (.seq (.fors (.nm 5) (.revr1 (.var 2)) (.seq (.ifs (.cmp .inn (.var 4) (.idx (.idx (.fld (.var 0) 6) (.idx (.var 1) (.var 5))) (.int 3))) (.seq (.ret (.bin .add (.var 5) (.int 1))) .skip) .skip) (.seq (.wipe [5]) .skip))) (.seq (.ret (.int 0)) .skip))))
def d_last_reset : Fd := ⟨4, false, [], 6, b_last_reset⟩
abbrev f_last_reset : Nat := 55
def n_last_reset : List Str := (["gate", "path", "index", "clock", "name", "place"] : List Str)
/-- Gate.clock_number -/
def b_Gate_clock_number : S := (.seq (.ifs (.or (.not (.isi (.var 1) .str)) (.one (.cmp .notin (.var 1) (.fld (.var 0) 10)))) .unre .skip) (.seq (.ret (.bin .add (.idx (.fld (.var 0) 10) (.var 1)) (.int 1))) .skip))
def d_Gate_clock_number : Fd := ⟨2, false, [], 2, b_Gate_clock_number⟩
abbrev f_Gate_clock_number : Nat := 56
def n_Gate_clock_number : List Str := (["self", "clock"] : List Str)
/-- span_caps -/
def b_span_caps : S := (.seq (.set (.tup (.cons (.nm 1) (.cons (.nm 2) .nil))) (.var 0)) (.seq (.ret (.tup (.cons (.var 2) (.cons (.tup (.cons (.neg (.idx (.var 1) (.int 0))) (.cons (.idx (.var 1) (.int 1)) .nil))) .nil)))) .skip))
def d_span_caps : Fd := ⟨1, false, [], 3, b_span_caps⟩
abbrev f_span_caps : Nat := 57
def n_span_caps : List Str := (["span", "low", "high"] : List Str)
/-- effective -/
def b_effective : S := (.seq (.ret (.blt .tuple (.cons (.lc (.enm (.var 0)) (.tup (.cons (.nm 3) (.cons (.nm 4) .nil))) (.blt .tuple (.cons (.lc (.enm (.var 4)) (.tup (.cons (.nm 1) (.cons (.nm 2) .nil))) (.ite (.cmp .inn (.var 3) (.tup (.cons (.int 0) (.cons (.var 1) .nil)))) (.call 86 (.cons (.var 2) (.cons (.glb 15) .nil))) (.var 2)) [("j", 1), ("cap", 2)]) .nil)) [("i", 3), ("row", 4)]) .nil))) .skip)
def d_effective : Fd := ⟨1, false, [], 5, b_effective⟩
abbrev f_effective : Nat := 58
def n_effective : List Str := (["table", "j", "cap", "i", "row"] : List Str)
/-- row_through -/
def b_row_through : S := (.seq (.ifs (.cmp .isN (.var 1) .non) (.seq (.ret (.var 0)) .skip) .skip) (.seq (.set (.tup (.cons (.nm 3) (.cons (.nm 4) .nil))) (.var 1)) (.seq (.set (.nm 5) (.cell (.lst .nil))) (.seq (.wipe [6, 7, 8]) (.seq (.fors (.tup (.cons (.nm 6) (.cons (.nm 7) .nil))) (.zip (.var 0) (.var 2)) (.seq (.ifs (.cmp .isN (.var 7) .non) (.seq (.app (.var 5) (.var 6)) .skip) (.seq (.set (.nm 8) (.tup (.cons (.bin .add (.var 3) (.idx (.var 7) (.int 0))) (.cons (.blt .min (.cons (.var 4) (.cons (.idx (.var 7) (.int 1)) .nil))) .nil)))) (.seq (.app (.var 5) (.ite (.or (.cmp .isN (.var 6) .non) (.one (.cmp .lt (.var 8) (.var 6)))) (.var 8) (.var 6))) .skip))) (.seq (.wipe [6, 7, 8]) .skip))) (.seq (.ret (.blt .tuple (.cons (.var 5) .nil))) .skip))))))
def d_row_through : Fd := ⟨3, false, [], 9, b_row_through⟩
abbrev f_row_through : Nat := 59
def n_row_through : List Str := (["row", "head", "through", "limit", "reach", "found", "cap", "tail", "total"] : List Str)
/-- is_condition -/
def b_is_condition : S := (.seq (.ifs (.or (.not (.isi (.var 1) .tuple)) (.one (.cmp .ne (.blt .len (.cons (.var 1) .nil)) (.int 3)))) (.seq (.ret (.bl false)) .skip) .skip) (.seq (.set (.tup (.cons (.nm 2) (.cons (.nm 3) (.cons (.nm 4) .nil)))) (.var 1)) (.seq (.ifs (.or (.not (.call 87 (.cons (.var 2) .nil))) (.one (.not (.call 87 (.cons (.var 3) .nil))))) (.seq (.ret (.bl false)) .skip) .skip) (.seq (.ret (.and (.chain .le .le (.int 0) (.var 2) (.var 0)) (.and (.chain .le .le (.int 0) (.var 3) (.var 0)) (.one (.call 88 (.cons (.var 4) .nil)))))) .skip))))
def d_is_condition : Fd := ⟨2, false, [], 5, b_is_condition⟩
abbrev f_is_condition : Nat := 60
def n_is_condition : List Str := (["clocks", "value", "i", "j", "cap"] : List Str)
/-- tightened -/
def b_tightened : S := (.seq (.set (.nm 2) (.var 0)) (.seq (.wipe [3, 4, 5, 6]) (.seq (.fors (.tup (.cons (.nm 3) (.cons (.nm 4) (.cons (.nm 5) .nil)))) (.seq (.var 1)) (.seq (.set (.nm 6) (.idx (.var 2) (.var 3))) (.seq (.set (.nm 6) (.bin .add (.bin .add (.slH (.var 6) (.var 4)) (.tup (.cons (.call 86 (.cons (.idx (.var 6) (.var 4)) (.cons (.var 5) .nil))) .nil))) (.slL (.var 6) (.bin .add (.var 4) (.int 1))))) (.seq (.set (.nm 2) (.bin .add (.bin .add (.slH (.var 2) (.var 3)) (.tup (.cons (.var 6) .nil))) (.slL (.var 2) (.bin .add (.var 3) (.int 1))))) (.seq (.wipe [3, 4, 5, 6]) .skip))))) (.seq (.ret (.var 2)) .skip))))
def d_tightened : Fd := ⟨2, false, [], 7, b_tightened⟩
abbrev f_tightened : Nat := 61
def n_tightened : List Str := (["table", "conditions", "rows", "i", "j", "cap", "row"] : List Str)
/-- _law_whole -/
def b__law_whole : S := (.seq (.ret (.and (.isi (.var 0) .int) (.one (.not (.isi (.var 0) .bool))))) .skip)
def d__law_whole : Fd := ⟨1, false, [], 1, b__law_whole⟩
abbrev f__law_whole : Nat := 62
def n__law_whole : List Str := (["_law_thing"] : List Str)
/-- _law_is_moment -/
def b__law_is_moment : S := (.seq (.ifs (.or (.not (.isi (.var 0) .tuple)) (.one (.cmp .ne (.blt .len (.cons (.var 0) .nil)) (.int 2)))) (.seq (.ret (.bl false)) .skip) .skip) (.seq (.ifs (.or (.not (.call 62 (.cons (.idx (.var 0) (.int 0)) .nil))) (.one (.not (.call 62 (.cons (.idx (.var 0) (.int 1)) .nil))))) (.seq (.ret (.bl false)) .skip) .skip) (.seq (.ifs (.or (.cmp .lt (.idx (.var 0) (.int 0)) (.int 0)) (.one (.cmp .lt (.idx (.var 0) (.int 1)) (.int 1)))) (.seq (.ret (.bl false)) .skip) .skip) (.seq (.ret (.cmp .eq (.call 6 (.cons (.idx (.var 0) (.int 0)) (.cons (.idx (.var 0) (.int 1)) .nil))) (.var 0))) .skip))))
def d__law_is_moment : Fd := ⟨1, false, [], 1, b__law_is_moment⟩
abbrev f__law_is_moment : Nat := 63
def n__law_is_moment : List Str := (["_law_thing"] : List Str)
/-- _law_shift -/
def b__law_shift : S := (.seq (.set (.nm 5) (.idx (.var 0) (.bin .add (.var 1) (.int 1)))) (.seq (.set (.nm 6) (.idx (.var 0) (.var 1))) (.seq (.set (.nm 7) (.idx (.var 0) (.var 2))) (.seq (.set (.nm 8) (.idx (.var 0) (.var 3))) (.seq (.ret (.call 68 (.cons (.lst (.cons (.var 5) (.cons (.tup (.cons (.bin .sub (.int 0) (.idx (.var 6) (.int 0))) (.cons (.idx (.var 6) (.int 1)) .nil))) (.cons (.var 8) (.cons (.tup (.cons (.bin .sub (.int 0) (.idx (.var 7) (.int 0))) (.cons (.idx (.var 7) (.int 1)) .nil))) (.cons (.tup (.cons (.var 4) (.cons (.int 1) .nil))) .nil)))))) .nil))) .skip)))))
def d__law_shift : Fd := ⟨5, false, [], 9, b__law_shift⟩
abbrev f__law_shift : Nat := 64
def n__law_shift : List Str := (["_law_readings", "_law_place", "_law_late", "_law_early", "_law_limit", "_law_here", "_law_before", "_law_one", "_law_other"] : List Str)
/-- _law_gap -/
def b__law_gap : S := (.seq (.ret (.call 6 (.cons (.bin .sub (.bin .mul (.idx (.var 1) (.int 0)) (.idx (.var 0) (.int 1))) (.bin .mul (.idx (.var 0) (.int 0)) (.idx (.var 1) (.int 1)))) (.cons (.bin .mul (.idx (.var 0) (.int 1)) (.idx (.var 1) (.int 1))) .nil)))) .skip)
def d__law_gap : Fd := ⟨2, false, [], 2, b__law_gap⟩
abbrev f__law_gap : Nat := 65
def n__law_gap : List Str := (["_law_one", "_law_other"] : List Str)
/-- _law_is_row -/
def b__law_is_row : S := (.seq (.ifs (.not (.isi (.var 0) .tuple)) (.seq (.ret (.bl false)) .skip) .skip) (.seq (.set (.nm 1) (.tup (.cons (.int 0) (.cons (.int 1) .nil)))) (.seq (.wipe [2]) (.seq (.fors (.nm 2) (.seq (.var 0)) (.seq (.ifs (.or (.not (.isi (.var 2) .tuple)) (.one (.cmp .ne (.blt .len (.cons (.var 2) .nil)) (.int 2)))) (.seq (.ret (.bl false)) .skip) .skip) (.seq (.ifs (.or (.not (.call 63 (.cons (.idx (.var 2) (.int 0)) .nil))) (.one (.not (.isi (.idx (.var 2) (.int 1)) .str)))) (.seq (.ret (.bl false)) .skip) .skip) (.seq (.ifs (.call 18 (.cons (.idx (.var 2) (.int 0)) (.cons (.var 1) .nil))) (.seq (.ret (.bl false)) .skip) .skip) (.seq (.set (.nm 1) (.idx (.var 2) (.int 0))) (.seq (.wipe [2]) .skip)))))) (.seq (.ret (.bl true)) .skip)))))
def d__law_is_row : Fd := ⟨1, false, [], 3, b__law_is_row⟩
abbrev f__law_is_row : Nat := 66
def n__law_is_row : List Str := (["_law_row", "_law_now", "_law_entry"] : List Str)
/-- cap_allows -/
def b_cap_allows : S := (.seq (.ifs (.cmp .isN (.var 0) .non) (.seq (.ret (.bl true)) .skip) .skip) (.seq (.set (.nm 3) (.bin .sub (.bin .mul (.idx (.var 1) (.int 0)) (.idx (.var 2) (.int 1))) (.bin .mul (.idx (.var 2) (.int 0)) (.idx (.var 1) (.int 1))))) (.seq (.set (.nm 4) (.bin .sub (.bin .mul (.bin .mul (.idx (.var 0) (.int 0)) (.idx (.var 1) (.int 1))) (.idx (.var 2) (.int 1))) (.var 3))) (.seq (.ret (.or (.cmp .gt (.var 4) (.int 0)) (.one (.and (.cmp .eq (.var 4) (.int 0)) (.one (.cmp .eq (.idx (.var 0) (.int 1)) (.int 1))))))) .skip))))
def d_cap_allows : Fd := ⟨3, false, [], 5, b_cap_allows⟩
abbrev f_cap_allows : Nat := 67
def n_cap_allows : List Str := (["cap", "first", "second", "difference", "spare"] : List Str)
/-- _law_total -/
def b__law_total : S := (.seq (.set (.nm 1) (.tup (.cons (.int 0) (.cons (.int 1) .nil)))) (.seq (.wipe [2]) (.seq (.fors (.nm 2) (.seq (.var 0)) (.seq (.set (.nm 1) (.call 6 (.cons (.bin .add (.bin .mul (.idx (.var 1) (.int 0)) (.idx (.var 2) (.int 1))) (.bin .mul (.idx (.var 2) (.int 0)) (.idx (.var 1) (.int 1)))) (.cons (.bin .mul (.idx (.var 1) (.int 1)) (.idx (.var 2) (.int 1))) .nil)))) (.seq (.wipe [2]) .skip))) (.seq (.ret (.var 1)) .skip))))
def d__law_total : Fd := ⟨1, false, [], 3, b__law_total⟩
abbrev f__law_total : Nat := 68
def n__law_total : List Str := (["_law_terms", "_law_total_here", "_law_term"] : List Str)
/-- _law_span -/
def b__law_span : S := (.seq (.set (.nm 2) (.tup (.cons (.call 2 (.cons (.var 0) (.cons (.bin .add (.var 1) (.int 1)) .nil))) (.cons (.call 2 (.cons (.var 0) (.cons (.int 2) .nil))) .nil)))) (.seq (.ifs (.cmp .eq (.call 2 (.cons (.var 0) (.cons (.int 3) .nil))) (.int 0)) (.seq (.ret (.tup (.cons (.var 2) (.cons .non .nil)))) .skip) .skip) (.seq (.set (.nm 3) (.tup (.cons (.bin .add (.idx (.var 2) (.int 0)) (.call 2 (.cons (.var 0) (.cons (.bin .sub (.bin .add (.var 1) (.int 1)) (.idx (.var 2) (.int 0))) .nil)))) (.cons (.call 2 (.cons (.var 0) (.cons (.int 2) .nil))) .nil)))) (.seq (.ifs (.cmp .eq (.idx (.var 3) (.int 0)) (.idx (.var 2) (.int 0))) (.seq (.ret (.tup (.cons (.tup (.cons (.idx (.var 2) (.int 0)) (.cons (.int 1) .nil))) (.cons (.tup (.cons (.idx (.var 2) (.int 0)) (.cons (.int 1) .nil))) .nil)))) .skip) .skip) (.seq (.ret (.tup (.cons (.var 2) (.cons (.var 3) .nil)))) .skip)))))
def d__law_span : Fd := ⟨2, false, [], 4, b__law_span⟩
abbrev f__law_span : Nat := 69
def n__law_span : List Str := (["_law_box_here", "_law_top", "_law_low_here", "_law_high"] : List Str)
/-- _law_stay_of -/
def b__law_stay_of : S := (.seq (.wipe [2]) (.seq (.fors (.nm 2) (.seq (.idx (.var 0) (.int 2))) (.seq (.ifs (.cmp .eq (.idx (.var 2) (.int 0)) (.var 1)) (.seq (.ret (.idx (.var 2) (.int 1))) .skip) .skip) (.seq (.wipe [2]) .skip))) (.seq (.ret (.tup .nil)) .skip)))
def d__law_stay_of : Fd := ⟨2, false, [], 3, b__law_stay_of⟩
abbrev f__law_stay_of : Nat := 70
def n__law_stay_of : List Str := (["_law_card_here", "_law_state", "_law_pair"] : List Str)
/-- _law_in -/
def b__law_in : S := (.seq (.set (.nm 2) (.idx (.var 1) (.int 0))) (.seq (.set (.nm 3) (.idx (.var 1) (.int 1))) (.seq (.ifs (.or (.cmp .lt (.idx (.var 0) (.int 0)) (.bin .mul (.idx (.var 2) (.int 0)) (.idx (.var 0) (.int 1)))) (.one (.and (.cmp .eq (.idx (.var 0) (.int 0)) (.bin .mul (.idx (.var 2) (.int 0)) (.idx (.var 0) (.int 1)))) (.one (.cmp .eq (.idx (.var 2) (.int 1)) (.int 0)))))) (.seq (.ret (.bl false)) .skip) .skip) (.seq (.ifs (.or (.cmp .isN (.var 3) .non) (.one (.cmp .lt (.idx (.var 0) (.int 0)) (.bin .mul (.idx (.var 3) (.int 0)) (.idx (.var 0) (.int 1)))))) (.seq (.ret (.bl true)) .skip) .skip) (.seq (.ret (.and (.cmp .eq (.idx (.var 0) (.int 0)) (.bin .mul (.idx (.var 3) (.int 0)) (.idx (.var 0) (.int 1)))) (.one (.cmp .eq (.idx (.var 3) (.int 1)) (.int 1))))) .skip)))))
def d__law_in : Fd := ⟨2, false, [], 4, b__law_in⟩
abbrev f__law_in : Nat := 71
def n__law_in : List Str := (["_law_when", "_law_bounds", "_law_low_here", "_law_high"] : List Str)
/-- is_name -/
def b_is_name : S := (.seq (.ifs (.or (.not (.isi (.var 0) .str)) (.one (.cmp .gt (.blt .len (.cons (.var 0) .nil)) (.glb 19)))) (.seq (.ret (.bl false)) .skip) .skip) (.seq (.ret (.blt .all (.cons (.lc (.seq (.bm (.var 0) .split (.str "."))) (.nm 1) (.call 77 (.cons (.var 1) .nil)) [("part", 1)]) .nil))) .skip))
def d_is_name : Fd := ⟨1, false, [], 2, b_is_name⟩
abbrev f_is_name : Nat := 72
def n_is_name : List Str := (["value", "part"] : List Str)
/-- _wrong_clock -/
def b__wrong_clock : S := (.seq (.ifs (.cmp .eq (.var 0) (.tup .nil)) (.seq (.ret (.int 0)) .skip) .skip) (.seq (.set (.nm 1) (.call 76 (.cons (.var 0) (.cons (.glb 20) .nil)))) (.seq (.ifs (.cmp .notN (.var 1) .non) (.seq (.ret (.blt .min (.cons (.var 1) (.cons (.glb 21) .nil)))) .skip) .skip) (.seq (.ifs (.cmp .gt (.blt .len (.cons (.var 0) .nil)) (.glb 21)) (.seq (.ret (.glb 21)) .skip) .skip) (.seq (.ret .non) .skip)))))
def d__wrong_clock : Fd := ⟨1, false, [], 2, b__wrong_clock⟩
abbrev f__wrong_clock : Nat := 73
def n__wrong_clock : List Str := (["clocks", "wrong"] : List Str)
/-- _wrong_state -/
def b__wrong_state : S := (.seq (.ifs (.or (.not (.isi (.var 0) .tuple)) (.one (.not (.var 0)))) (.seq (.ret (.int 0)) .skip) .skip) (.seq (.set (.nm 2) (.cell .newd)) (.seq (.wipe [3, 4, 5, 6]) (.seq (.fors (.tup (.cons (.nm 3) (.cons (.nm 4) .nil))) (.enm (.var 0)) (.seq (.ifs (.or (.cmp .ge (.var 3) (.glb 22)) (.or (.not (.isi (.var 4) .tuple)) (.one (.cmp .ne (.blt .len (.cons (.var 4) .nil)) (.int 2))))) (.seq (.ret (.var 3)) .skip) .skip) (.seq (.set (.tup (.cons (.nm 5) (.cons (.nm 6) .nil))) (.var 4)) (.seq (.ifs (.or (.not (.call 72 (.cons (.var 5) .nil))) (.or (.cmp .inn (.var 5) (.var 2)) (.one (.not (.call 89 (.cons (.var 1) (.cons (.var 6) (.cons (.glb 23) .nil)))))))) (.seq (.ret (.var 3)) .skip) .skip) (.seq (.setix (.var 2) (.var 5) (.bl true)) (.seq (.wipe [3, 4, 5, 6]) .skip)))))) (.seq (.ret .non) .skip)))))
def d__wrong_state : Fd := ⟨2, false, [], 7, b__wrong_state⟩
abbrev f__wrong_state : Nat := 74
def n__wrong_state : List Str := (["states", "clocks", "seen", "index", "item", "state", "stay"] : List Str)
/-- _wrong_step -/
def b__wrong_step : S := (.seq (.ifs (.not (.isi (.var 0) .tuple)) (.seq (.ret (.int 0)) .skip) .skip) (.seq (.wipe [3, 4]) (.seq (.fors (.tup (.cons (.nm 3) (.cons (.nm 4) .nil))) (.enm (.var 0)) (.seq (.ifs (.or (.cmp .ge (.var 3) (.glb 24)) (.one (.not (.call 91 (.cons (.var 4) (.cons (.var 1) (.cons (.var 2) .nil))))))) (.seq (.ret (.var 3)) .skip) .skip) (.seq (.wipe [3, 4]) .skip))) (.seq (.ret .non) .skip))))
def d__wrong_step : Fd := ⟨3, false, [], 5, b__wrong_step⟩
abbrev f__wrong_step : Nat := 75
def n__wrong_step : List Str := (["steps", "clocks", "names", "index", "item"] : List Str)
/-- _wrong_name -/
def b__wrong_name : S := (.seq (.ifs (.not (.isi (.var 0) .tuple)) (.seq (.ret (.int 0)) .skip) .skip) (.seq (.set (.nm 2) (.cell .newd)) (.seq (.wipe [3, 4]) (.seq (.fors (.tup (.cons (.nm 3) (.cons (.nm 4) .nil))) (.enm (.var 0)) (.seq (.ifs (.or (.not (.callv 1 (.cons (.var 4) .nil))) (.one (.cmp .inn (.var 4) (.var 2)))) (.seq (.ret (.var 3)) .skip) .skip) (.seq (.setix (.var 2) (.var 4) (.bl true)) (.seq (.wipe [3, 4]) .skip)))) (.seq (.ret .non) .skip)))))
def d__wrong_name : Fd := ⟨2, false, [], 5, b__wrong_name⟩
abbrev f__wrong_name : Nat := 76
def n__wrong_name : List Str := (["names", "accepts", "seen", "index", "name"] : List Str)
/-- is_simple -/
def b_is_simple : S := (.seq (.ifs (.or (.not (.isi (.var 0) .str)) (.one (.not (.chain .le .le (.int 1) (.blt .len (.cons (.var 0) .nil)) (.glb 25))))) (.seq (.ret (.bl false)) .skip) .skip) (.seq (.ret (.blt .all (.cons (.lc (.seq (.var 0)) (.nm 1) (.cmp .inn (.var 1) (.glb 26)) [("letter", 1)]) .nil))) .skip))
def d_is_simple : Fd := ⟨1, false, [], 2, b_is_simple⟩
abbrev f_is_simple : Nat := 77
def n_is_simple : List Str := (["value", "letter"] : List Str)
/-- _wrong_entry -/
def b__wrong_entry : S := (.seq (.ifs (.not (.isi (.var 0) .tuple)) (.seq (.ret (.int 0)) .skip) .skip) (.seq (.set (.nm 1) (.glb 27)) (.seq (.wipe [2, 3, 4, 5]) (.seq (.fors (.tup (.cons (.nm 2) (.cons (.nm 3) .nil))) (.enm (.var 0)) (.seq (.ifs (.or (.not (.isi (.var 3) .tuple)) (.one (.cmp .ne (.blt .len (.cons (.var 3) .nil)) (.int 2)))) (.seq (.ret (.var 2)) .skip) .skip) (.seq (.set (.tup (.cons (.nm 4) (.cons (.nm 5) .nil))) (.var 3)) (.seq (.ifs (.or (.not (.call 92 (.cons (.var 4) .nil))) (.or (.not (.call 77 (.cons (.var 5) .nil))) (.one (.cmp .lt (.call 84 (.cons (.var 4) (.cons (.var 1) .nil))) (.int 0))))) (.seq (.ret (.var 2)) .skip) .skip) (.seq (.set (.nm 1) (.var 4)) (.seq (.wipe [2, 3, 4, 5]) .skip)))))) (.seq (.ret .non) .skip)))))
def d__wrong_entry : Fd := ⟨1, false, [], 6, b__wrong_entry⟩
abbrev f__wrong_entry : Nat := 78
def n__wrong_entry : List Str := (["value", "before", "index", "entry", "moment", "deed"] : List Str)
/-- start -/
def b_start : S := (.seq (.ret (.tup (.cons (.idx (.idx (.fld (.var 0) 5) (.int 0)) (.int 0)) (.cons (.blt .tuple (.cons (.lc (.seq (.fld (.var 0) 4)) (.nm 1) (.glb 27) [("_", 1)]) .nil)) .nil)))) .skip)
def d_start : Fd := ⟨1, false, [], 2, b_start⟩
abbrev f_start : Nat := 79
def n_start : List Str := (["gate", "_"] : List Str)
/-- _after_rest -/
def b__after_rest : S := (.seq (.set (.tup (.cons (.nm 3) (.cons (.nm 4) .nil))) (.var 1)) (.seq (.set (.nm 4) (.call 93 (.cons (.var 4) (.cons (.var 2) .nil)))) (.seq (.ifs (.not (.call 94 (.cons (.var 0) (.cons (.var 3) (.cons (.var 4) .nil))))) (.seq (.ret .non) .skip) .skip) (.seq (.ret (.tup (.cons (.var 3) (.cons (.var 4) .nil)))) .skip))))
def d__after_rest : Fd := ⟨3, false, [], 5, b__after_rest⟩
abbrev f__after_rest : Nat := 80
def n__after_rest : List Str := (["gate", "standing", "wait", "state", "readings"] : List Str)
/-- _after_step -/
def b__after_step : S := (.seq (.set (.tup (.cons (.nm 3) (.cons (.nm 4) .nil))) (.var 1)) (.seq (.set (.tup (.cons (.nm 5) (.cons (.nm 6) (.cons (.nm 7) (.cons (.nm 8) (.cons (.nm 9) .nil)))))) (.idx (.fld (.var 0) 6) (.var 2))) (.seq (.ifs (.or (.cmp .ne (.var 5) (.var 3)) (.one (.not (.call 95 (.cons (.var 0) (.cons (.var 7) (.cons (.var 4) .nil))))))) (.seq (.ret .non) .skip) .skip) (.seq (.set (.nm 10) (.cell (.blt .list (.cons (.var 4) .nil)))) (.seq (.wipe [11]) (.seq (.fors (.nm 11) (.seq (.var 8)) (.seq (.setix (.var 10) (.bin .sub (.meth (.var 0) 14 (.cons (.var 11) .nil)) (.int 1)) (.glb 27)) (.seq (.wipe [11]) .skip))) (.seq (.ifs (.not (.call 94 (.cons (.var 0) (.cons (.var 9) (.cons (.var 10) .nil))))) (.seq (.ret .non) .skip) .skip) (.seq (.ret (.tup (.cons (.var 9) (.cons (.blt .tuple (.cons (.var 10) .nil)) .nil)))) .skip))))))))
def d__after_step : Fd := ⟨3, false, [], 12, b__after_step⟩
abbrev f__after_step : Nat := 81
def n__after_step : List Str := (["gate", "standing", "step", "state", "readings", "source", "_", "test", "restarts", "target", "changed", "clock"] : List Str)
/-- _rests_before -/
def b__rests_before : S := (.seq (.set (.nm 1) (.bin .add (.lst (.cons (.glb 27) .nil)) (.lc (.seq (.var 0)) (.tup (.cons (.nm 2) (.cons (.nm 3) .nil))) (.var 2) [("moment", 2), ("_", 3)]))) (.seq (.ret (.lc (.enm (.var 0)) (.tup (.cons (.nm 4) (.cons (.tup (.cons (.nm 2) (.cons (.nm 3) .nil))) .nil))) (.call 48 (.cons (.idx (.var 1) (.var 4)) (.cons (.var 2) .nil))) [("index", 4), ("moment", 2), ("_", 3)])) .skip))
def d__rests_before : Fd := ⟨1, false, [], 5, b__rests_before⟩
abbrev f__rests_before : Nat := 82
def n__rests_before : List Str := (["row", "moments", "moment", "_", "index"] : List Str)
/-- moment -/
def b_moment : S := (.seq (.ifs (.or (.cmp .lt (.var 0) (.int 0)) (.one (.cmp .lt (.var 1) (.int 1)))) .unre .skip) (.seq (.set (.nm 2) (.blt .gcd (.cons (.var 0) (.cons (.var 1) .nil)))) (.seq (.ret (.tup (.cons (.bin .fdiv (.var 0) (.var 2)) (.cons (.bin .fdiv (.var 1) (.var 2)) .nil)))) .skip)))
def d_moment : Fd := ⟨2, false, [], 3, b_moment⟩
abbrev f_moment : Nat := 83
def n_moment : List Str := (["numerator", "denominator", "shared"] : List Str)
/-- compared -/
def b_compared : S := (.seq (.set (.nm 2) (.bin .sub (.bin .mul (.idx (.var 0) (.int 0)) (.idx (.var 1) (.int 1))) (.bin .mul (.idx (.var 1) (.int 0)) (.idx (.var 0) (.int 1))))) (.seq (.ifs (.cmp .lt (.var 2) (.int 0)) (.seq (.ret (.neg (.int 1))) .skip) .skip) (.seq (.ret (.ite (.cmp .gt (.var 2) (.int 0)) (.int 1) (.int 0))) .skip)))
def d_compared : Fd := ⟨2, false, [], 3, b_compared⟩
abbrev f_compared : Nat := 84
def n_compared : List Str := (["first", "second", "difference"] : List Str)
/-- Gate.stay_of -/
def b_Gate_stay_of : S := (.seq (.ret (.idx (.idx (.fld (.var 0) 5) (.meth (.var 0) 28 (.cons (.var 1) .nil))) (.int 1))) .skip)
def d_Gate_stay_of : Fd := ⟨2, false, [], 2, b_Gate_stay_of⟩
abbrev f_Gate_stay_of : Nat := 85
def n_Gate_stay_of : List Str := (["self", "state"] : List Str)
/-- least_cap -/
def b_least_cap : S := (.seq (.set (.nm 1) .non) (.seq (.wipe [2]) (.seq (.fors (.nm 2) (.seq (.var 0)) (.seq (.ifs (.or (.cmp .isN (.var 1) .non) (.one (.and (.cmp .notN (.var 2) .non) (.one (.cmp .lt (.var 2) (.var 1)))))) (.seq (.set (.nm 1) (.var 2)) .skip) .skip) (.seq (.wipe [2]) .skip))) (.seq (.ret (.var 1)) .skip))))
def d_least_cap : Fd := ⟨0, true, [], 3, b_least_cap⟩
abbrev f_least_cap : Nat := 86
def n_least_cap : List Str := (["caps", "least", "cap"] : List Str)
/-- is_whole -/
def b_is_whole : S := (.seq (.ret (.and (.isi (.var 0) .int) (.one (.not (.isi (.var 0) .bool))))) .skip)
def d_is_whole : Fd := ⟨1, false, [], 1, b_is_whole⟩
abbrev f_is_whole : Nat := 87
def n_is_whole : List Str := (["value"] : List Str)
/-- is_cap -/
def b_is_cap : S := (.seq (.ret (.or (.cmp .isN (.var 0) .non) (.one (.call 97 (.cons (.var 0) .nil))))) .skip)
def d_is_cap : Fd := ⟨1, false, [], 1, b_is_cap⟩
abbrev f_is_cap : Nat := 88
def n_is_cap : List Str := (["value"] : List Str)
/-- _are_clock_pairs -/
def b__are_clock_pairs : S := (.seq (.ifs (.not (.isi (.var 1) .tuple)) (.seq (.ret (.bl false)) .skip) .skip) (.seq (.set (.nm 3) (.cell .newd)) (.seq (.wipe [4, 5, 6]) (.seq (.fors (.nm 4) (.seq (.var 1)) (.seq (.ifs (.or (.not (.isi (.var 4) .tuple)) (.one (.cmp .ne (.blt .len (.cons (.var 4) .nil)) (.int 2)))) (.seq (.ret (.bl false)) .skip) .skip) (.seq (.set (.tup (.cons (.nm 5) (.cons (.nm 6) .nil))) (.var 4)) (.seq (.ifs (.or (.cmp .notin (.var 5) (.var 0)) (.or (.cmp .inn (.var 5) (.var 3)) (.one (.not (.callv 2 (.cons (.var 6) .nil)))))) (.seq (.ret (.bl false)) .skip) .skip) (.seq (.setix (.var 3) (.var 5) (.bl true)) (.seq (.wipe [4, 5, 6]) .skip)))))) (.seq (.ret (.bl true)) .skip)))))
def d__are_clock_pairs : Fd := ⟨3, false, [], 7, b__are_clock_pairs⟩
abbrev f__are_clock_pairs : Nat := 89
def n__are_clock_pairs : List Str := (["clocks", "value", "accepts", "seen", "item", "clock", "bound"] : List Str)
/-- _is_stay_edge -/
def b__is_stay_edge : S := (.seq (.ret (.and (.call 97 (.cons (.var 0) .nil)) (.and (.cmp .ge (.idx (.var 0) (.int 0)) (.int 0)) (.one (.cmp .ne (.var 0) (.tup (.cons (.int 0) (.cons (.int 0) .nil)))))))) .skip)
def d__is_stay_edge : Fd := ⟨1, false, [], 1, b__is_stay_edge⟩
abbrev f__is_stay_edge : Nat := 90
def n__is_stay_edge : List Str := (["value"] : List Str)
/-- _is_step -/
def b__is_step : S := (.seq (.ifs (.or (.not (.isi (.var 0) .tuple)) (.one (.cmp .ne (.blt .len (.cons (.var 0) .nil)) (.int 5)))) (.seq (.ret (.bl false)) .skip) .skip) (.seq (.set (.tup (.cons (.nm 3) (.cons (.nm 4) (.cons (.nm 5) (.cons (.nm 6) (.cons (.nm 7) .nil)))))) (.var 0)) (.seq (.ifs (.or (.cmp .notin (.var 3) (.var 2)) (.or (.cmp .notin (.var 7) (.var 2)) (.one (.not (.call 77 (.cons (.var 4) .nil)))))) (.seq (.ret (.bl false)) .skip) .skip) (.seq (.ifs (.or (.not (.call 89 (.cons (.var 1) (.cons (.var 5) (.cons (.glb 29) .nil))))) (.one (.cmp .notN (.call 76 (.cons (.var 6) (.cons (.glb 20) .nil))) .non))) (.seq (.ret (.bl false)) .skip) .skip) (.seq (.ret (.blt .all (.cons (.lc (.seq (.var 6)) (.nm 8) (.cmp .inn (.var 8) (.var 1)) [("clock", 8)]) .nil))) .skip)))))
def d__is_step : Fd := ⟨3, false, [], 9, b__is_step⟩
abbrev f__is_step : Nat := 91
def n__is_step : List Str := (["value", "clocks", "names", "source", "deed", "test", "restarts", "target", "clock"] : List Str)
/-- is_moment -/
def b_is_moment : S := (.seq (.ifs (.or (.not (.isi (.var 0) .tuple)) (.one (.cmp .ne (.blt .len (.cons (.var 0) .nil)) (.int 2)))) (.seq (.ret (.bl false)) .skip) .skip) (.seq (.set (.tup (.cons (.nm 1) (.cons (.nm 2) .nil))) (.var 0)) (.seq (.ifs (.or (.not (.call 87 (.cons (.var 1) .nil))) (.one (.not (.call 87 (.cons (.var 2) .nil))))) (.seq (.ret (.bl false)) .skip) .skip) (.seq (.ret (.and (.cmp .ge (.var 1) (.int 0)) (.and (.cmp .ge (.var 2) (.int 1)) (.one (.cmp .eq (.blt .gcd (.cons (.var 1) (.cons (.var 2) .nil))) (.int 1)))))) .skip))))
def d_is_moment : Fd := ⟨1, false, [], 3, b_is_moment⟩
abbrev f_is_moment : Nat := 92
def n_is_moment : List Str := (["value", "numerator", "denominator"] : List Str)
/-- advanced -/
def b_advanced : S := (.seq (.ret (.blt .tuple (.cons (.lc (.seq (.var 0)) (.nm 2) (.call 99 (.cons (.var 2) (.cons (.var 1) .nil))) [("reading", 2)]) .nil))) .skip)
def d_advanced : Fd := ⟨2, false, [], 3, b_advanced⟩
abbrev f_advanced : Nat := 93
def n_advanced : List Str := (["readings", "wait", "reading"] : List Str)
/-- stay_holds -/
def b_stay_holds : S := (.seq (.ret (.call 95 (.cons (.var 0) (.cons (.lc (.seq (.meth (.var 0) 18 (.cons (.var 1) .nil))) (.tup (.cons (.nm 3) (.cons (.nm 4) .nil))) (.tup (.cons (.var 3) (.cons (.tup (.cons (.glb 27) (.cons (.var 4) .nil))) .nil))) [("clock", 3), ("edge", 4)]) (.cons (.var 2) .nil))))) .skip)
def d_stay_holds : Fd := ⟨3, false, [], 5, b_stay_holds⟩
abbrev f_stay_holds : Nat := 94
def n_stay_holds : List Str := (["gate", "state", "readings", "clock", "edge"] : List Str)
/-- test_holds -/
def b_test_holds : S := (.seq (.ret (.blt .all (.cons (.lc (.seq (.var 1)) (.tup (.cons (.nm 3) (.cons (.nm 4) .nil))) (.call 100 (.cons (.idx (.var 2) (.bin .sub (.meth (.var 0) 14 (.cons (.var 3) .nil)) (.int 1))) (.cons (.var 4) .nil))) [("clock", 3), ("span", 4)]) .nil))) .skip)
def d_test_holds : Fd := ⟨3, false, [], 5, b_test_holds⟩
abbrev f_test_holds : Nat := 95
def n_test_holds : List Str := (["gate", "test", "readings", "clock", "span"] : List Str)
/-- Gate.state_index -/
def b_Gate_state_index : S := (.seq (.ifs (.or (.not (.isi (.var 1) .str)) (.one (.cmp .notin (.var 1) (.fld (.var 0) 11)))) .unre .skip) (.seq (.ret (.idx (.fld (.var 0) 11) (.var 1))) .skip))
def d_Gate_state_index : Fd := ⟨2, false, [], 2, b_Gate_state_index⟩
abbrev f_Gate_state_index : Nat := 96
def n_Gate_state_index : List Str := (["self", "state"] : List Str)
/-- is_edge -/
def b_is_edge : S := (.seq (.ifs (.or (.not (.isi (.var 0) .tuple)) (.one (.cmp .ne (.blt .len (.cons (.var 0) .nil)) (.int 2)))) (.seq (.ret (.bl false)) .skip) .skip) (.seq (.set (.tup (.cons (.nm 1) (.cons (.nm 2) .nil))) (.var 0)) (.seq (.ret (.and (.call 87 (.cons (.var 1) .nil)) (.and (.call 87 (.cons (.var 2) .nil)) (.one (.chain .le .le (.int 0) (.var 2) (.int 1)))))) .skip)))
def d_is_edge : Fd := ⟨1, false, [], 3, b_is_edge⟩
abbrev f_is_edge : Nat := 97
def n_is_edge : List Str := (["value", "limit", "reach"] : List Str)
/-- is_span -/
def b_is_span : S := (.seq (.ifs (.or (.not (.isi (.var 0) .tuple)) (.one (.cmp .ne (.blt .len (.cons (.var 0) .nil)) (.int 2)))) (.seq (.ret (.bl false)) .skip) .skip) (.seq (.set (.tup (.cons (.nm 1) (.cons (.nm 2) .nil))) (.var 0)) (.seq (.ifs (.or (.not (.call 97 (.cons (.var 1) .nil))) (.one (.cmp .lt (.idx (.var 1) (.int 0)) (.int 0)))) (.seq (.ret (.bl false)) .skip) .skip) (.seq (.ifs (.cmp .isN (.var 2) .non) (.seq (.ret (.bl true)) .skip) .skip) (.seq (.ifs (.not (.call 97 (.cons (.var 2) .nil))) (.seq (.ret (.bl false)) .skip) .skip) (.seq (.ret (.or (.cmp .gt (.idx (.var 2) (.int 0)) (.idx (.var 1) (.int 0))) (.one (.and (.cmp .eq (.idx (.var 2) (.int 0)) (.idx (.var 1) (.int 0))) (.and (.cmp .eq (.idx (.var 1) (.int 1)) (.int 1)) (.one (.cmp .eq (.idx (.var 2) (.int 1)) (.int 1)))))))) .skip))))))
def d_is_span : Fd := ⟨1, false, [], 3, b_is_span⟩
abbrev f_is_span : Nat := 98
def n_is_span : List Str := (["value", "low", "high"] : List Str)
/-- added -/
def b_added : S := (.seq (.set (.nm 1) (.glb 16)) (.seq (.wipe [2, 3]) (.seq (.fors (.tup (.cons (.nm 2) (.cons (.nm 3) .nil))) (.seq (.var 0)) (.seq (.set (.nm 1) (.call 83 (.cons (.bin .add (.bin .mul (.idx (.var 1) (.int 0)) (.var 3)) (.bin .mul (.var 2) (.idx (.var 1) (.int 1)))) (.cons (.bin .mul (.idx (.var 1) (.int 1)) (.var 3)) .nil)))) (.seq (.wipe [2, 3]) .skip))) (.seq (.ret (.var 1)) .skip))))
def d_added : Fd := ⟨0, true, [], 4, b_added⟩
abbrev f_added : Nat := 99
def n_added : List Str := (["moments", "total", "numerator", "denominator"] : List Str)
/-- in_span -/
def b_in_span : S := (.seq (.set (.tup (.cons (.nm 2) (.cons (.nm 3) .nil))) (.var 0)) (.seq (.set (.tup (.cons (.nm 4) (.cons (.nm 5) .nil))) (.var 1)) (.seq (.set (.nm 6) (.bin .sub (.var 2) (.bin .mul (.idx (.var 4) (.int 0)) (.var 3)))) (.seq (.ifs (.or (.cmp .lt (.var 6) (.int 0)) (.one (.and (.cmp .eq (.var 6) (.int 0)) (.one (.cmp .eq (.idx (.var 4) (.int 1)) (.int 0)))))) (.seq (.ret (.bl false)) .skip) .skip) (.seq (.ifs (.cmp .isN (.var 5) .non) (.seq (.ret (.bl true)) .skip) .skip) (.seq (.set (.nm 7) (.bin .sub (.bin .mul (.idx (.var 5) (.int 0)) (.var 3)) (.var 2))) (.seq (.ret (.or (.cmp .gt (.var 7) (.int 0)) (.one (.and (.cmp .eq (.var 7) (.int 0)) (.one (.cmp .eq (.idx (.var 5) (.int 1)) (.int 1))))))) .skip)))))))
def d_in_span : Fd := ⟨2, false, [], 8, b_in_span⟩
abbrev f_in_span : Nat := 100
def n_in_span : List Str := (["moment", "span", "numerator", "denominator", "low", "high", "above", "below"] : List Str)
/-- the defs by number -/
def fns : Nat → Option Fd
  | 0 => some d_law
  | 1 => some d__law_box
  | 2 => some d__law_take
  | 3 => some d__law_words
  | 4 => some d__law_card
  | 5 => some d__law_led
  | 6 => some d__law_low
  | 7 => some d__law_scaled
  | 8 => some d__law_gate
  | 9 => some d__law_no_place
  | 10 => some d_path_table
  | 11 => some d__law_is_table
  | 12 => some d__law_place_holds
  | 13 => some d__law_dotted
  | 14 => some d__law_stay
  | 15 => some d__law_step
  | 16 => some d__law_some
  | 17 => some d__law_begin
  | 18 => some d__law_less
  | 19 => some d__law_plus
  | 20 => some d__law_rested
  | 21 => some d__law_let
  | 22 => some d__law_after
  | 23 => some d__law_scaled_edge
  | 24 => some d_Gate_init
  | 25 => some d_slack
  | 26 => some d_path_conditions
  | 27 => some d__test_conditions
  | 28 => some d_close
  | 29 => some d_table_with
  | 30 => some d__law_is_cap
  | 31 => some d__law_is_bound
  | 32 => some d__law_piece
  | 33 => some d__law_moved
  | 34 => some d__law_run_end
  | 35 => some d__law_within
  | 36 => some d_keeps
  | 37 => some d__law_tried
  | 38 => some d__law_test
  | 39 => some d__law_stays
  | 40 => some d__law_holds
  | 41 => some d__check_parts
  | 42 => some d__deeds_in
  | 43 => some d__ceilings_in
  | 44 => some d__places_of
  | 45 => some d__steps_by_source
  | 46 => some d_check_row
  | 47 => some d_standing_after
  | 48 => some d_since
  | 49 => some d__lesser_high
  | 50 => some d__high_beside
  | 51 => some d__greater_low
  | 52 => some d__low_beside
  | 53 => some d__states_along
  | 54 => some d__stay_conditions
  | 55 => some d_last_reset
  | 56 => some d_Gate_clock_number
  | 57 => some d_span_caps
  | 58 => some d_effective
  | 59 => some d_row_through
  | 60 => some d_is_condition
  | 61 => some d_tightened
  | 62 => some d__law_whole
  | 63 => some d__law_is_moment
  | 64 => some d__law_shift
  | 65 => some d__law_gap
  | 66 => some d__law_is_row
  | 67 => some d_cap_allows
  | 68 => some d__law_total
  | 69 => some d__law_span
  | 70 => some d__law_stay_of
  | 71 => some d__law_in
  | 72 => some d_is_name
  | 73 => some d__wrong_clock
  | 74 => some d__wrong_state
  | 75 => some d__wrong_step
  | 76 => some d__wrong_name
  | 77 => some d_is_simple
  | 78 => some d__wrong_entry
  | 79 => some d_start
  | 80 => some d__after_rest
  | 81 => some d__after_step
  | 82 => some d__rests_before
  | 83 => some d_moment
  | 84 => some d_compared
  | 85 => some d_Gate_stay_of
  | 86 => some d_least_cap
  | 87 => some d_is_whole
  | 88 => some d_is_cap
  | 89 => some d__are_clock_pairs
  | 90 => some d__is_stay_edge
  | 91 => some d__is_step
  | 92 => some d_is_moment
  | 93 => some d_advanced
  | 94 => some d_stay_holds
  | 95 => some d_test_holds
  | 96 => some d_Gate_state_index
  | 97 => some d_is_edge
  | 98 => some d_is_span
  | 99 => some d_added
  | 100 => some d_in_span
  | _ => none
def fnames0 : List Str := (["law", "_law_box", "_law_take", "_law_words", "_law_card", "_law_led", "_law_low", "_law_scaled", "_law_gate", "_law_no_place", "path_table", "_law_is_table", "_law_place_holds", "_law_dotted", "_law_stay", "_law_step", "_law_some", "_law_begin", "_law_less", "_law_plus"] : List Str)
def fnames1 : List Str := (["_law_rested", "_law_let", "_law_after", "_law_scaled_edge", "Gate.__init__", "slack", "path_conditions", "_test_conditions", "close", "table_with", "_law_is_cap", "_law_is_bound", "_law_piece", "_law_moved", "_law_run_end", "_law_within", "keeps", "_law_tried", "_law_test", "_law_stays"] : List Str)
def fnames2 : List Str := (["_law_holds", "_check_parts", "_deeds_in", "_ceilings_in", "_places_of", "_steps_by_source", "check_row", "standing_after", "since", "_lesser_high", "_high_beside", "_greater_low", "_low_beside", "_states_along", "_stay_conditions", "last_reset", "Gate.clock_number", "span_caps", "effective", "row_through"] : List Str)
def fnames3 : List Str := (["is_condition", "tightened", "_law_whole", "_law_is_moment", "_law_shift", "_law_gap", "_law_is_row", "cap_allows", "_law_total", "_law_span", "_law_stay_of", "_law_in", "is_name", "_wrong_clock", "_wrong_state", "_wrong_step", "_wrong_name", "is_simple", "_wrong_entry", "start"] : List Str)
def fnames4 : List Str := (["_after_rest", "_after_step", "_rests_before", "moment", "compared", "Gate.stay_of", "least_cap", "is_whole", "is_cap", "_are_clock_pairs", "_is_stay_edge", "_is_step", "is_moment", "advanced", "stay_holds", "test_holds", "Gate.state_index", "is_edge", "is_span", "added"] : List Str)
def fnames5 : List Str := (["in_span"] : List Str)
def fnames : List Str := fnames0 ++ fnames1 ++ fnames2 ++ fnames3 ++ fnames4 ++ fnames5
def syms0 : List Str := (["Gate", "InvalidRow", "index", "name", "clocks", "states", "steps", "also", "_deeds", "_ceilings", "_clock_places", "_state_places", "_leaving", "ZERO_slack", "clock_number", "NO_MORE", "ZERO_moments", "is_simple", "stay_of", "MOST_CHARACTERS"] : List Str)
def syms1 : List Str := (["is_name", "MOST_CLOCKS", "MOST_STATES", "_is_stay_edge", "MOST_STEPS", "MOST_LETTERS", "LETTERS", "ZERO_running", "state_index", "is_span"] : List Str)
def syms : List Str := syms0 ++ syms1
abbrev y_Gate : Nat := 0
abbrev y_InvalidRow : Nat := 1
abbrev y_index : Nat := 2
abbrev y_name : Nat := 3
abbrev y_clocks : Nat := 4
abbrev y_states : Nat := 5
abbrev y_steps : Nat := 6
abbrev y_also : Nat := 7
abbrev y__deeds : Nat := 8
abbrev y__ceilings : Nat := 9
abbrev y__clock_places : Nat := 10
abbrev y__state_places : Nat := 11
abbrev y__leaving : Nat := 12
abbrev y_ZERO_slack : Nat := 13
abbrev y_clock_number : Nat := 14
abbrev y_NO_MORE : Nat := 15
abbrev y_ZERO_moments : Nat := 16
abbrev y_is_simple : Nat := 17
abbrev y_stay_of : Nat := 18
abbrev y_MOST_CHARACTERS : Nat := 19
abbrev y_is_name : Nat := 20
abbrev y_MOST_CLOCKS : Nat := 21
abbrev y_MOST_STATES : Nat := 22
abbrev y__is_stay_edge : Nat := 23
abbrev y_MOST_STEPS : Nat := 24
abbrev y_MOST_LETTERS : Nat := 25
abbrev y_LETTERS : Nat := 26
abbrev y_ZERO_running : Nat := 27
abbrev y_state_index : Nat := 28
abbrev y_is_span : Nat := 29
def glb : Nat → Option PV
  | 13 => some (.tup [.int 0, .int 1])
  | 15 => some (.tup [.int 0, .int 1])
  | 16 => some (.tup [.int 0, .int 1])
  | 17 => some (.fn 77)
  | 19 => some (.int 200)
  | 20 => some (.fn 72)
  | 21 => some (.int 6)
  | 22 => some (.int 64)
  | 23 => some (.fn 90)
  | 24 => some (.int 400)
  | 25 => some (.int 12)
  | 26 => some (.str (Str.ofString "abcdefghijklmnopqrstuvwxyz"))
  | 27 => some (.tup [.int 0, .int 1])
  | 29 => some (.fn 98)
  | _ => none
end K87
end
section
set_option Elab.async false
set_option linter.all false
set_option maxRecDepth 100000
/-! K87Tab: the tables of the evaluator (printed by gentab.py). -/
namespace K87
open PySem BR
def at_Gate : List Nat := [3, 4, 5, 6, 7, 8, 9, 10, 11, 12]
def iniT (c : Nat) : Option Nat := if c = 0 then some 24 else none
def mthT (c m : Nat) : Option Nat := if c = 0 ∧ m = 14 then some 56 else if c = 0 ∧ m = 18 then some 85 else if c = 0 ∧ m = 28 then some 96 else none
def attT (c f : Nat) : Bool := (decide (c = 0) && at_Gate.contains f)
def xfT (c : Nat) : List Nat := if c = 1 then [2] else []
def stillT (c : Nat) : Bool := decide (c = 0)
def tab : Tab := ⟨fns, glb, iniT, stillT, mthT, attT, xfT⟩
end K87
end
section
set_option Elab.async false
set_option linter.all false
set_option maxRecDepth 100000
set_option maxHeartbeats 0
/-! K87Nam: the names, the defs of the row (printed by genhead.py). -/
namespace K87
open PySem PySem.Spec PyProof.Rows L2 BR
def top (i : Nat) : Stmt := PySem.Challenge.pw_bellrest_k87_slack_in_tables.main.body.getD i (.Pass ⟨0, 0, 0, 0⟩)
def mem (s : Stmt) (j : Nat) : Stmt := match s with
  | .ClassDef _ _ _ b _ _ _ _ _ _ _ => b.getD j (.Pass ⟨0, 0, 0, 0⟩)
  | _ => .Pass ⟨0, 0, 0, 0⟩
def symAt (i : Nat) : Str := match syms[i]? with
  | some x => x
  | none => ⟨#[1114112 + i]⟩
def fnAt (i : Nat) : Str := match fnames[i]? with
  | some x => x
  | none => ⟨#[1114112 + i]⟩
abbrev s_law : Stmt := top 155
abbrev s__law_box : Stmt := top 114
abbrev s__law_take : Stmt := top 115
abbrev s__law_words : Stmt := top 116
abbrev s__law_card : Stmt := top 123
abbrev s__law_led : Stmt := top 141
abbrev s__law_low : Stmt := top 126
abbrev s__law_scaled : Stmt := top 143
abbrev s__law_gate : Stmt := top 124
abbrev s__law_no_place : Stmt := top 154
abbrev s_path_table : Stmt := top 46
abbrev s__law_is_table : Stmt := top 146
abbrev s__law_place_holds : Stmt := top 153
abbrev s__law_dotted : Stmt := top 117
abbrev s__law_stay : Stmt := top 119
abbrev s__law_step : Stmt := top 122
abbrev s__law_some : Stmt := top 121
abbrev s__law_begin : Stmt := top 135
abbrev s__law_less : Stmt := top 128
abbrev s__law_plus : Stmt := top 129
abbrev s__law_rested : Stmt := top 136
abbrev s__law_let : Stmt := top 138
abbrev s__law_after : Stmt := top 137
abbrev s__law_scaled_edge : Stmt := top 142
abbrev s_Gate_init : Stmt := mem (top 100) 0
abbrev s_slack : Stmt := top 72
abbrev s_path_conditions : Stmt := top 47
abbrev s__test_conditions : Stmt := top 50
abbrev s_close : Stmt := top 44
abbrev s_table_with : Stmt := top 40
abbrev s__law_is_cap : Stmt := top 145
abbrev s__law_is_bound : Stmt := top 147
abbrev s__law_piece : Stmt := top 149
abbrev s__law_moved : Stmt := top 150
abbrev s__law_run_end : Stmt := top 140
abbrev s__law_within : Stmt := top 151
abbrev s_keeps : Stmt := top 37
abbrev s__law_tried : Stmt := top 152
abbrev s__law_test : Stmt := top 120
abbrev s__law_stays : Stmt := top 133
abbrev s__law_holds : Stmt := top 134
abbrev s__check_parts : Stmt := top 101
abbrev s__deeds_in : Stmt := top 109
abbrev s__ceilings_in : Stmt := top 110
abbrev s__places_of : Stmt := top 111
abbrev s__steps_by_source : Stmt := top 112
abbrev s_check_row : Stmt := top 60
abbrev s_standing_after : Stmt := top 69
abbrev s_since : Stmt := top 21
abbrev s__lesser_high : Stmt := top 75
abbrev s__high_beside : Stmt := top 73
abbrev s__greater_low : Stmt := top 76
abbrev s__low_beside : Stmt := top 74
abbrev s__states_along : Stmt := top 49
abbrev s__stay_conditions : Stmt := top 51
abbrev s_last_reset : Stmt := top 48
abbrev s_Gate_clock_number : Stmt := mem (top 100) 3
abbrev s_span_caps : Stmt := top 31
abbrev s_effective : Stmt := top 42
abbrev s_row_through : Stmt := top 43
abbrev s_is_condition : Stmt := top 39
abbrev s_tightened : Stmt := top 38
abbrev s__law_whole : Stmt := top 125
abbrev s__law_is_moment : Stmt := top 127
abbrev s__law_shift : Stmt := top 148
abbrev s__law_gap : Stmt := top 130
abbrev s__law_is_row : Stmt := top 139
abbrev s_cap_allows : Stmt := top 36
abbrev s__law_total : Stmt := top 144
abbrev s__law_span : Stmt := top 118
abbrev s__law_stay_of : Stmt := top 132
abbrev s__law_in : Stmt := top 131
abbrev s_is_name : Stmt := top 57
abbrev s__wrong_clock : Stmt := top 103
abbrev s__wrong_state : Stmt := top 104
abbrev s__wrong_step : Stmt := top 105
abbrev s__wrong_name : Stmt := top 102
abbrev s_is_simple : Stmt := top 56
abbrev s__wrong_entry : Stmt := top 61
abbrev s_start : Stmt := top 62
abbrev s__after_rest : Stmt := top 66
abbrev s__after_step : Stmt := top 67
abbrev s__rests_before : Stmt := top 68
abbrev s_moment : Stmt := top 19
abbrev s_compared : Stmt := top 22
abbrev s_Gate_stay_of : Stmt := mem (top 100) 5
abbrev s_least_cap : Stmt := top 35
abbrev s_is_whole : Stmt := top 16
abbrev s_is_cap : Stmt := top 34
abbrev s__are_clock_pairs : Stmt := top 107
abbrev s__is_stay_edge : Stmt := top 108
abbrev s__is_step : Stmt := top 106
abbrev s_is_moment : Stmt := top 18
abbrev s_advanced : Stmt := top 65
abbrev s_stay_holds : Stmt := top 63
abbrev s_test_holds : Stmt := top 64
abbrev s_Gate_state_index : Stmt := mem (top 100) 4
abbrev s_is_edge : Stmt := top 25
abbrev s_is_span : Stmt := top 26
abbrev s_added : Stmt := top 20
abbrev s_in_span : Stmt := top 27
abbrev s_InvalidRow_init : Stmt := mem (top 12) 0
end K87
end
section
set_option Elab.async false
set_option linter.all false
set_option maxRecDepth 100000
set_option maxHeartbeats 0
/-! K87Head: what stands in the module behind its top (printed by genhead2.py). -/
namespace K87
open PySem PySem.W PySem.Spec PyProof.Rows L2 BR He
abbrev R : OpenRow := OpenLaw.row PySem.Challenge.rw_bellrest_k87_slack_in_tables
abbrev qv : Program := view R.prog [0, 155]
def loose0 : List PySem.Str := (["_wall", "BellError", "InvalidMoment", "Backwards", "InvalidSpan", "InvalidTable", "Unlike", "InvalidGate", "UnknownName", "InvalidText", "InvalidRow", "NotLet", "ZERO_moments", "is_whole", "is_numeral", "is_moment", "moment", "added", "since", "compared"] : List PySem.Str)
def loose1 : List PySem.Str := (["MOST_DIGITS_spans", "is_edge", "is_span", "in_span", "span_text", "is_limit_text", "read_span", "span_caps", "NO_MORE", "is_cap", "least_cap", "cap_allows", "keeps", "tightened", "is_condition", "table_with", "effective", "row_through", "close", "path_table"] : List PySem.Str)
def loose2 : List PySem.Str := (["path_conditions", "last_reset", "_states_along", "_test_conditions", "_stay_conditions", "LETTERS", "MOST_LETTERS", "MOST_CHARACTERS", "is_simple", "is_name", "ZERO_running", "check_row", "_wrong_entry", "start", "stay_holds", "test_holds", "advanced", "_after_rest", "_after_step", "_rests_before"] : List PySem.Str)
def loose3 : List PySem.Str := (["standing_after", "ZERO_slack", "slack", "_high_beside", "_low_beside", "_lesser_high", "_greater_low", "DIGITS", "MOST_DIGITS_gatetext", "text_of_parts", "_state_text", "_step_text", "parts_of_text", "_line_at", "_lines_from", "_gate_line", "_clocks_line", "_state_line", "_step_line", "_also_line"] : List PySem.Str)
def loose4 : List PySem.Str := (["_are_names", "_leading_tests", "_stay_pair", "_test_pair", "_limit_of", "MOST_CLOCKS", "MOST_STATES", "MOST_STEPS", "Gate", "_check_parts", "_wrong_name", "_wrong_clock", "_wrong_state", "_wrong_step", "_is_step", "_are_clock_pairs", "_is_stay_edge", "_deeds_in", "_ceilings_in", "_places_of"] : List PySem.Str)
def loose5 : List PySem.Str := (["_steps_by_source", "_law_box", "_law_take", "_law_words", "_law_dotted", "_law_span", "_law_stay", "_law_test", "_law_some", "_law_step", "_law_card", "_law_gate", "_law_whole", "_law_low", "_law_is_moment", "_law_less", "_law_plus", "_law_gap", "_law_in", "_law_stay_of"] : List PySem.Str)
def loose6 : List PySem.Str := (["_law_stays", "_law_holds", "_law_begin", "_law_rested", "_law_after", "_law_let", "_law_is_row", "_law_run_end", "_law_led", "_law_scaled_edge", "_law_scaled", "_law_total", "_law_is_cap", "_law_is_table", "_law_is_bound", "_law_shift", "_law_piece", "_law_moved", "_law_within", "_law_tried"] : List PySem.Str)
def loose7 : List PySem.Str := (["_law_place_holds", "_law_no_place"] : List PySem.Str)
def loose : List PySem.Str := loose0 ++ loose1 ++ loose2 ++ loose3 ++ loose4 ++ loose5 ++ loose6 ++ loose7
def paths0 : List (Str × Option Str) := ([("law", none), ("_law_box", none), ("_law_take", none), ("_law_words", none), ("_law_card", none), ("_law_led", none), ("_law_low", none), ("_law_scaled", none), ("_law_gate", none), ("_law_no_place", none), ("path_table", none), ("_law_is_table", none), ("_law_place_holds", none), ("_law_dotted", none), ("_law_stay", none), ("_law_step", none), ("_law_some", none), ("_law_begin", none), ("_law_less", none), ("_law_plus", none)] : List (Str × Option Str))
def paths1 : List (Str × Option Str) := ([("_law_rested", none), ("_law_let", none), ("_law_after", none), ("_law_scaled_edge", none), ("Gate", some "__init__"), ("slack", none), ("path_conditions", none), ("_test_conditions", none), ("close", none), ("table_with", none), ("_law_is_cap", none), ("_law_is_bound", none), ("_law_piece", none), ("_law_moved", none), ("_law_run_end", none), ("_law_within", none), ("keeps", none), ("_law_tried", none), ("_law_test", none), ("_law_stays", none)] : List (Str × Option Str))
def paths2 : List (Str × Option Str) := ([("_law_holds", none), ("_check_parts", none), ("_deeds_in", none), ("_ceilings_in", none), ("_places_of", none), ("_steps_by_source", none), ("check_row", none), ("standing_after", none), ("since", none), ("_lesser_high", none), ("_high_beside", none), ("_greater_low", none), ("_low_beside", none), ("_states_along", none), ("_stay_conditions", none), ("last_reset", none), ("Gate", some "clock_number"), ("span_caps", none), ("effective", none), ("row_through", none)] : List (Str × Option Str))
def paths3 : List (Str × Option Str) := ([("is_condition", none), ("tightened", none), ("_law_whole", none), ("_law_is_moment", none), ("_law_shift", none), ("_law_gap", none), ("_law_is_row", none), ("cap_allows", none), ("_law_total", none), ("_law_span", none), ("_law_stay_of", none), ("_law_in", none), ("is_name", none), ("_wrong_clock", none), ("_wrong_state", none), ("_wrong_step", none), ("_wrong_name", none), ("is_simple", none), ("_wrong_entry", none), ("start", none)] : List (Str × Option Str))
def paths4 : List (Str × Option Str) := ([("_after_rest", none), ("_after_step", none), ("_rests_before", none), ("moment", none), ("compared", none), ("Gate", some "stay_of"), ("least_cap", none), ("is_whole", none), ("is_cap", none), ("_are_clock_pairs", none), ("_is_stay_edge", none), ("_is_step", none), ("is_moment", none), ("advanced", none), ("stay_holds", none), ("test_holds", none), ("Gate", some "state_index"), ("is_edge", none), ("is_span", none), ("added", none)] : List (Str × Option Str))
def paths5 : List (Str × Option Str) := ([("in_span", none)] : List (Str × Option Str))
def paths : List (Str × Option Str) := paths0 ++ paths1 ++ paths2 ++ paths3 ++ paths4 ++ paths5
def D_law : DefD := ⟨("law", none), "law", "law", defArgs s_law, defBody s_law, defScope s_law, [], []⟩
def D__law_box : DefD := ⟨("_law_box", none), "_law_box", "_law_box", defArgs s__law_box, defBody s__law_box, defScope s__law_box, [], []⟩
def D__law_take : DefD := ⟨("_law_take", none), "_law_take", "_law_take", defArgs s__law_take, defBody s__law_take, defScope s__law_take, [], []⟩
def D__law_words : DefD := ⟨("_law_words", none), "_law_words", "_law_words", defArgs s__law_words, defBody s__law_words, defScope s__law_words, [], []⟩
def D__law_card : DefD := ⟨("_law_card", none), "_law_card", "_law_card", defArgs s__law_card, defBody s__law_card, defScope s__law_card, [], []⟩
def D__law_led : DefD := ⟨("_law_led", none), "_law_led", "_law_led", defArgs s__law_led, defBody s__law_led, defScope s__law_led, [], []⟩
def D__law_low : DefD := ⟨("_law_low", none), "_law_low", "_law_low", defArgs s__law_low, defBody s__law_low, defScope s__law_low, [], []⟩
def D__law_scaled : DefD := ⟨("_law_scaled", none), "_law_scaled", "_law_scaled", defArgs s__law_scaled, defBody s__law_scaled, defScope s__law_scaled, [], []⟩
def D__law_gate : DefD := ⟨("_law_gate", none), "_law_gate", "_law_gate", defArgs s__law_gate, defBody s__law_gate, defScope s__law_gate, [], []⟩
def D__law_no_place : DefD := ⟨("_law_no_place", none), "_law_no_place", "_law_no_place", defArgs s__law_no_place, defBody s__law_no_place, defScope s__law_no_place, [], []⟩
def D_path_table : DefD := ⟨("path_table", none), "path_table", "path_table", defArgs s_path_table, defBody s_path_table, defScope s_path_table, [.adr (dflAt ("path_table", none) 0)], []⟩
def D__law_is_table : DefD := ⟨("_law_is_table", none), "_law_is_table", "_law_is_table", defArgs s__law_is_table, defBody s__law_is_table, defScope s__law_is_table, [], []⟩
def D__law_place_holds : DefD := ⟨("_law_place_holds", none), "_law_place_holds", "_law_place_holds", defArgs s__law_place_holds, defBody s__law_place_holds, defScope s__law_place_holds, [], []⟩
def D__law_dotted : DefD := ⟨("_law_dotted", none), "_law_dotted", "_law_dotted", defArgs s__law_dotted, defBody s__law_dotted, defScope s__law_dotted, [], []⟩
def D__law_stay : DefD := ⟨("_law_stay", none), "_law_stay", "_law_stay", defArgs s__law_stay, defBody s__law_stay, defScope s__law_stay, [], []⟩
def D__law_step : DefD := ⟨("_law_step", none), "_law_step", "_law_step", defArgs s__law_step, defBody s__law_step, defScope s__law_step, [], []⟩
def D__law_some : DefD := ⟨("_law_some", none), "_law_some", "_law_some", defArgs s__law_some, defBody s__law_some, defScope s__law_some, [], []⟩
def D__law_begin : DefD := ⟨("_law_begin", none), "_law_begin", "_law_begin", defArgs s__law_begin, defBody s__law_begin, defScope s__law_begin, [], []⟩
def D__law_less : DefD := ⟨("_law_less", none), "_law_less", "_law_less", defArgs s__law_less, defBody s__law_less, defScope s__law_less, [], []⟩
def D__law_plus : DefD := ⟨("_law_plus", none), "_law_plus", "_law_plus", defArgs s__law_plus, defBody s__law_plus, defScope s__law_plus, [], []⟩
def D__law_rested : DefD := ⟨("_law_rested", none), "_law_rested", "_law_rested", defArgs s__law_rested, defBody s__law_rested, defScope s__law_rested, [], []⟩
def D__law_let : DefD := ⟨("_law_let", none), "_law_let", "_law_let", defArgs s__law_let, defBody s__law_let, defScope s__law_let, [], []⟩
def D__law_after : DefD := ⟨("_law_after", none), "_law_after", "_law_after", defArgs s__law_after, defBody s__law_after, defScope s__law_after, [], []⟩
def D__law_scaled_edge : DefD := ⟨("_law_scaled_edge", none), "_law_scaled_edge", "_law_scaled_edge", defArgs s__law_scaled_edge, defBody s__law_scaled_edge, defScope s__law_scaled_edge, [], []⟩
def D_Gate_init : DefD := ⟨("Gate", some "__init__"), "__init__", "Gate.__init__", defArgs s_Gate_init, defBody s_Gate_init, defScope s_Gate_init, [.adr (dflAt ("Gate", some "__init__") 0)], []⟩
def D_slack : DefD := ⟨("slack", none), "slack", "slack", defArgs s_slack, defBody s_slack, defScope s_slack, [], []⟩
def D_path_conditions : DefD := ⟨("path_conditions", none), "path_conditions", "path_conditions", defArgs s_path_conditions, defBody s_path_conditions, defScope s_path_conditions, [], []⟩
def D__test_conditions : DefD := ⟨("_test_conditions", none), "_test_conditions", "_test_conditions", defArgs s__test_conditions, defBody s__test_conditions, defScope s__test_conditions, [], []⟩
def D_close : DefD := ⟨("close", none), "close", "close", defArgs s_close, defBody s_close, defScope s_close, [], []⟩
def D_table_with : DefD := ⟨("table_with", none), "table_with", "table_with", defArgs s_table_with, defBody s_table_with, defScope s_table_with, [], []⟩
def D__law_is_cap : DefD := ⟨("_law_is_cap", none), "_law_is_cap", "_law_is_cap", defArgs s__law_is_cap, defBody s__law_is_cap, defScope s__law_is_cap, [], []⟩
def D__law_is_bound : DefD := ⟨("_law_is_bound", none), "_law_is_bound", "_law_is_bound", defArgs s__law_is_bound, defBody s__law_is_bound, defScope s__law_is_bound, [], []⟩
def D__law_piece : DefD := ⟨("_law_piece", none), "_law_piece", "_law_piece", defArgs s__law_piece, defBody s__law_piece, defScope s__law_piece, [], []⟩
def D__law_moved : DefD := ⟨("_law_moved", none), "_law_moved", "_law_moved", defArgs s__law_moved, defBody s__law_moved, defScope s__law_moved, [], []⟩
def D__law_run_end : DefD := ⟨("_law_run_end", none), "_law_run_end", "_law_run_end", defArgs s__law_run_end, defBody s__law_run_end, defScope s__law_run_end, [], []⟩
def D__law_within : DefD := ⟨("_law_within", none), "_law_within", "_law_within", defArgs s__law_within, defBody s__law_within, defScope s__law_within, [], []⟩
def D_keeps : DefD := ⟨("keeps", none), "keeps", "keeps", defArgs s_keeps, defBody s_keeps, defScope s_keeps, [], []⟩
def D__law_tried : DefD := ⟨("_law_tried", none), "_law_tried", "_law_tried", defArgs s__law_tried, defBody s__law_tried, defScope s__law_tried, [], []⟩
def D__law_test : DefD := ⟨("_law_test", none), "_law_test", "_law_test", defArgs s__law_test, defBody s__law_test, defScope s__law_test, [], []⟩
def D__law_stays : DefD := ⟨("_law_stays", none), "_law_stays", "_law_stays", defArgs s__law_stays, defBody s__law_stays, defScope s__law_stays, [], []⟩
def D__law_holds : DefD := ⟨("_law_holds", none), "_law_holds", "_law_holds", defArgs s__law_holds, defBody s__law_holds, defScope s__law_holds, [], []⟩
def D__check_parts : DefD := ⟨("_check_parts", none), "_check_parts", "_check_parts", defArgs s__check_parts, defBody s__check_parts, defScope s__check_parts, [], []⟩
def D__deeds_in : DefD := ⟨("_deeds_in", none), "_deeds_in", "_deeds_in", defArgs s__deeds_in, defBody s__deeds_in, defScope s__deeds_in, [], []⟩
def D__ceilings_in : DefD := ⟨("_ceilings_in", none), "_ceilings_in", "_ceilings_in", defArgs s__ceilings_in, defBody s__ceilings_in, defScope s__ceilings_in, [], []⟩
def D__places_of : DefD := ⟨("_places_of", none), "_places_of", "_places_of", defArgs s__places_of, defBody s__places_of, defScope s__places_of, [], []⟩
def D__steps_by_source : DefD := ⟨("_steps_by_source", none), "_steps_by_source", "_steps_by_source", defArgs s__steps_by_source, defBody s__steps_by_source, defScope s__steps_by_source, [], []⟩
def D_check_row : DefD := ⟨("check_row", none), "check_row", "check_row", defArgs s_check_row, defBody s_check_row, defScope s_check_row, [], []⟩
def D_standing_after : DefD := ⟨("standing_after", none), "standing_after", "standing_after", defArgs s_standing_after, defBody s_standing_after, defScope s_standing_after, [], []⟩
def D_since : DefD := ⟨("since", none), "since", "since", defArgs s_since, defBody s_since, defScope s_since, [], []⟩
def D__lesser_high : DefD := ⟨("_lesser_high", none), "_lesser_high", "_lesser_high", defArgs s__lesser_high, defBody s__lesser_high, defScope s__lesser_high, [], []⟩
def D__high_beside : DefD := ⟨("_high_beside", none), "_high_beside", "_high_beside", defArgs s__high_beside, defBody s__high_beside, defScope s__high_beside, [], []⟩
def D__greater_low : DefD := ⟨("_greater_low", none), "_greater_low", "_greater_low", defArgs s__greater_low, defBody s__greater_low, defScope s__greater_low, [], []⟩
def D__low_beside : DefD := ⟨("_low_beside", none), "_low_beside", "_low_beside", defArgs s__low_beside, defBody s__low_beside, defScope s__low_beside, [], []⟩
def D__states_along : DefD := ⟨("_states_along", none), "_states_along", "_states_along", defArgs s__states_along, defBody s__states_along, defScope s__states_along, [], []⟩
def D__stay_conditions : DefD := ⟨("_stay_conditions", none), "_stay_conditions", "_stay_conditions", defArgs s__stay_conditions, defBody s__stay_conditions, defScope s__stay_conditions, [], []⟩
def D_last_reset : DefD := ⟨("last_reset", none), "last_reset", "last_reset", defArgs s_last_reset, defBody s_last_reset, defScope s_last_reset, [], []⟩
def D_Gate_clock_number : DefD := ⟨("Gate", some "clock_number"), "clock_number", "Gate.clock_number", defArgs s_Gate_clock_number, defBody s_Gate_clock_number, defScope s_Gate_clock_number, [], []⟩
def D_span_caps : DefD := ⟨("span_caps", none), "span_caps", "span_caps", defArgs s_span_caps, defBody s_span_caps, defScope s_span_caps, [], []⟩
def D_effective : DefD := ⟨("effective", none), "effective", "effective", defArgs s_effective, defBody s_effective, defScope s_effective, [], []⟩
def D_row_through : DefD := ⟨("row_through", none), "row_through", "row_through", defArgs s_row_through, defBody s_row_through, defScope s_row_through, [], []⟩
def D_is_condition : DefD := ⟨("is_condition", none), "is_condition", "is_condition", defArgs s_is_condition, defBody s_is_condition, defScope s_is_condition, [], []⟩
def D_tightened : DefD := ⟨("tightened", none), "tightened", "tightened", defArgs s_tightened, defBody s_tightened, defScope s_tightened, [], []⟩
def D__law_whole : DefD := ⟨("_law_whole", none), "_law_whole", "_law_whole", defArgs s__law_whole, defBody s__law_whole, defScope s__law_whole, [], []⟩
def D__law_is_moment : DefD := ⟨("_law_is_moment", none), "_law_is_moment", "_law_is_moment", defArgs s__law_is_moment, defBody s__law_is_moment, defScope s__law_is_moment, [], []⟩
def D__law_shift : DefD := ⟨("_law_shift", none), "_law_shift", "_law_shift", defArgs s__law_shift, defBody s__law_shift, defScope s__law_shift, [], []⟩
def D__law_gap : DefD := ⟨("_law_gap", none), "_law_gap", "_law_gap", defArgs s__law_gap, defBody s__law_gap, defScope s__law_gap, [], []⟩
def D__law_is_row : DefD := ⟨("_law_is_row", none), "_law_is_row", "_law_is_row", defArgs s__law_is_row, defBody s__law_is_row, defScope s__law_is_row, [], []⟩
def D_cap_allows : DefD := ⟨("cap_allows", none), "cap_allows", "cap_allows", defArgs s_cap_allows, defBody s_cap_allows, defScope s_cap_allows, [], []⟩
def D__law_total : DefD := ⟨("_law_total", none), "_law_total", "_law_total", defArgs s__law_total, defBody s__law_total, defScope s__law_total, [], []⟩
def D__law_span : DefD := ⟨("_law_span", none), "_law_span", "_law_span", defArgs s__law_span, defBody s__law_span, defScope s__law_span, [], []⟩
def D__law_stay_of : DefD := ⟨("_law_stay_of", none), "_law_stay_of", "_law_stay_of", defArgs s__law_stay_of, defBody s__law_stay_of, defScope s__law_stay_of, [], []⟩
def D__law_in : DefD := ⟨("_law_in", none), "_law_in", "_law_in", defArgs s__law_in, defBody s__law_in, defScope s__law_in, [], []⟩
def D_is_name : DefD := ⟨("is_name", none), "is_name", "is_name", defArgs s_is_name, defBody s_is_name, defScope s_is_name, [], []⟩
def D__wrong_clock : DefD := ⟨("_wrong_clock", none), "_wrong_clock", "_wrong_clock", defArgs s__wrong_clock, defBody s__wrong_clock, defScope s__wrong_clock, [], []⟩
def D__wrong_state : DefD := ⟨("_wrong_state", none), "_wrong_state", "_wrong_state", defArgs s__wrong_state, defBody s__wrong_state, defScope s__wrong_state, [], []⟩
def D__wrong_step : DefD := ⟨("_wrong_step", none), "_wrong_step", "_wrong_step", defArgs s__wrong_step, defBody s__wrong_step, defScope s__wrong_step, [], []⟩
def D__wrong_name : DefD := ⟨("_wrong_name", none), "_wrong_name", "_wrong_name", defArgs s__wrong_name, defBody s__wrong_name, defScope s__wrong_name, [], []⟩
def D_is_simple : DefD := ⟨("is_simple", none), "is_simple", "is_simple", defArgs s_is_simple, defBody s_is_simple, defScope s_is_simple, [], []⟩
def D__wrong_entry : DefD := ⟨("_wrong_entry", none), "_wrong_entry", "_wrong_entry", defArgs s__wrong_entry, defBody s__wrong_entry, defScope s__wrong_entry, [], []⟩
def D_start : DefD := ⟨("start", none), "start", "start", defArgs s_start, defBody s_start, defScope s_start, [], []⟩
def D__after_rest : DefD := ⟨("_after_rest", none), "_after_rest", "_after_rest", defArgs s__after_rest, defBody s__after_rest, defScope s__after_rest, [], []⟩
def D__after_step : DefD := ⟨("_after_step", none), "_after_step", "_after_step", defArgs s__after_step, defBody s__after_step, defScope s__after_step, [], []⟩
def D__rests_before : DefD := ⟨("_rests_before", none), "_rests_before", "_rests_before", defArgs s__rests_before, defBody s__rests_before, defScope s__rests_before, [], []⟩
def D_moment : DefD := ⟨("moment", none), "moment", "moment", defArgs s_moment, defBody s_moment, defScope s_moment, [.int 1], []⟩
def D_compared : DefD := ⟨("compared", none), "compared", "compared", defArgs s_compared, defBody s_compared, defScope s_compared, [], []⟩
def D_Gate_stay_of : DefD := ⟨("Gate", some "stay_of"), "stay_of", "Gate.stay_of", defArgs s_Gate_stay_of, defBody s_Gate_stay_of, defScope s_Gate_stay_of, [], []⟩
def D_least_cap : DefD := ⟨("least_cap", none), "least_cap", "least_cap", defArgs s_least_cap, defBody s_least_cap, defScope s_least_cap, [], []⟩
def D_is_whole : DefD := ⟨("is_whole", none), "is_whole", "is_whole", defArgs s_is_whole, defBody s_is_whole, defScope s_is_whole, [], []⟩
def D_is_cap : DefD := ⟨("is_cap", none), "is_cap", "is_cap", defArgs s_is_cap, defBody s_is_cap, defScope s_is_cap, [], []⟩
def D__are_clock_pairs : DefD := ⟨("_are_clock_pairs", none), "_are_clock_pairs", "_are_clock_pairs", defArgs s__are_clock_pairs, defBody s__are_clock_pairs, defScope s__are_clock_pairs, [], []⟩
def D__is_stay_edge : DefD := ⟨("_is_stay_edge", none), "_is_stay_edge", "_is_stay_edge", defArgs s__is_stay_edge, defBody s__is_stay_edge, defScope s__is_stay_edge, [], []⟩
def D__is_step : DefD := ⟨("_is_step", none), "_is_step", "_is_step", defArgs s__is_step, defBody s__is_step, defScope s__is_step, [], []⟩
def D_is_moment : DefD := ⟨("is_moment", none), "is_moment", "is_moment", defArgs s_is_moment, defBody s_is_moment, defScope s_is_moment, [], []⟩
def D_advanced : DefD := ⟨("advanced", none), "advanced", "advanced", defArgs s_advanced, defBody s_advanced, defScope s_advanced, [], []⟩
def D_stay_holds : DefD := ⟨("stay_holds", none), "stay_holds", "stay_holds", defArgs s_stay_holds, defBody s_stay_holds, defScope s_stay_holds, [], []⟩
def D_test_holds : DefD := ⟨("test_holds", none), "test_holds", "test_holds", defArgs s_test_holds, defBody s_test_holds, defScope s_test_holds, [], []⟩
def D_Gate_state_index : DefD := ⟨("Gate", some "state_index"), "state_index", "Gate.state_index", defArgs s_Gate_state_index, defBody s_Gate_state_index, defScope s_Gate_state_index, [], []⟩
def D_is_edge : DefD := ⟨("is_edge", none), "is_edge", "is_edge", defArgs s_is_edge, defBody s_is_edge, defScope s_is_edge, [], []⟩
def D_is_span : DefD := ⟨("is_span", none), "is_span", "is_span", defArgs s_is_span, defBody s_is_span, defScope s_is_span, [], []⟩
def D_added : DefD := ⟨("added", none), "added", "added", defArgs s_added, defBody s_added, defScope s_added, [], []⟩
def D_in_span : DefD := ⟨("in_span", none), "in_span", "in_span", defArgs s_in_span, defBody s_in_span, defScope s_in_span, [], []⟩
def fnl0 : List DefD := ([D_law, D__law_box, D__law_take, D__law_words, D__law_card, D__law_led, D__law_low, D__law_scaled, D__law_gate, D__law_no_place, D_path_table, D__law_is_table, D__law_place_holds, D__law_dotted, D__law_stay, D__law_step, D__law_some, D__law_begin, D__law_less, D__law_plus] : List DefD)
def fnl1 : List DefD := ([D__law_rested, D__law_let, D__law_after, D__law_scaled_edge, D_Gate_init, D_slack, D_path_conditions, D__test_conditions, D_close, D_table_with, D__law_is_cap, D__law_is_bound, D__law_piece, D__law_moved, D__law_run_end, D__law_within, D_keeps, D__law_tried, D__law_test, D__law_stays] : List DefD)
def fnl2 : List DefD := ([D__law_holds, D__check_parts, D__deeds_in, D__ceilings_in, D__places_of, D__steps_by_source, D_check_row, D_standing_after, D_since, D__lesser_high, D__high_beside, D__greater_low, D__low_beside, D__states_along, D__stay_conditions, D_last_reset, D_Gate_clock_number, D_span_caps, D_effective, D_row_through] : List DefD)
def fnl3 : List DefD := ([D_is_condition, D_tightened, D__law_whole, D__law_is_moment, D__law_shift, D__law_gap, D__law_is_row, D_cap_allows, D__law_total, D__law_span, D__law_stay_of, D__law_in, D_is_name, D__wrong_clock, D__wrong_state, D__wrong_step, D__wrong_name, D_is_simple, D__wrong_entry, D_start] : List DefD)
def fnl4 : List DefD := ([D__after_rest, D__after_step, D__rests_before, D_moment, D_compared, D_Gate_stay_of, D_least_cap, D_is_whole, D_is_cap, D__are_clock_pairs, D__is_stay_edge, D__is_step, D_is_moment, D_advanced, D_stay_holds, D_test_holds, D_Gate_state_index, D_is_edge, D_is_span, D_added] : List DefD)
def fnl5 : List DefD := ([D_in_span] : List DefD)
def fnl : List DefD := fnl0 ++ fnl1 ++ fnl2 ++ fnl3 ++ fnl4 ++ fnl5
def D_InvalidRow_init : DefD := ⟨("InvalidRow", some "__init__"), "__init__", "InvalidRow.__init__", defArgs s_InvalidRow_init, defBody s_InvalidRow_init, defScope s_InvalidRow_init, [], []⟩
def xsl : List DefD := ([D_InvalidRow_init] : List DefD)
def isgL : List Nat := [0, 1, 2, 3, 4, 5, 6, 7, 8, 9, 10, 11, 12, 13, 14, 15, 16, 17, 18, 19, 20, 21, 22, 23, 25, 26, 27, 28, 29, 30, 31, 32, 33, 34, 35, 36, 37, 38, 39, 40, 41, 42, 43, 44, 45, 46, 47, 48, 49, 50, 51, 52, 53, 54, 55, 57, 58, 59, 60, 61, 62, 63, 64, 65, 66, 67, 68, 69, 70, 71, 72, 73, 74, 75, 76, 77, 78, 79, 80, 81, 82, 83, 84, 86, 87, 88, 89, 90, 91, 92, 93, 94, 95, 97, 98, 99, 100]
def pathAt (i : Nat) : Str × Option Str := match paths[i]? with
  | some p => p
  | none => ("law", none)
abbrev fa0 : Fa := .glo "Gate"
abbrev fa1 : Fa := .cls "Gate"
abbrev fa2 : Fa := .mkr "Gate"
abbrev fa3 : Fa := .meth "Gate" "clock_number"
abbrev fa4 : Fa := .meth "Gate" "stay_of"
abbrev fa5 : Fa := .meth "Gate" "state_index"
abbrev fa6 : Fa := .glo "InvalidRow"
abbrev fa7 : Fa := .exm "InvalidRow" "InvalidRow" true
abbrev fa8 : Fa := .noat "InvalidRow" "index"
abbrev fa9 : Fa := .free "super"
abbrev fa10 : Fa := .glo "ZERO_slack"
abbrev fa11 : Fa := .glo "NO_MORE"
abbrev fa12 : Fa := .glo "ZERO_moments"
abbrev fa13 : Fa := .int "MOST_CHARACTERS" 200
abbrev fa14 : Fa := .int "MOST_CLOCKS" 6
abbrev fa15 : Fa := .int "MOST_STATES" 64
abbrev fa16 : Fa := .int "MOST_STEPS" 400
abbrev fa17 : Fa := .int "MOST_LETTERS" 12
abbrev fa18 : Fa := .str "LETTERS" "abcdefghijklmnopqrstuvwxyz"
abbrev fa19 : Fa := .glo "ZERO_running"
/-- an empty tuple -/
def emptyB (K : PySem.W.Frag) (a : Addr) : Bool := match K.lookup a with
  | some ⟨.type c, _, .seq its _, _⟩ => decide (c = "tuple") && its.isEmpty
  | _ => false
def bx0 (K : PySem.W.Frag) : Bool := fa0.ok K
def bx1 (K : PySem.W.Frag) : Bool := fa1.ok K
def bx2 (K : PySem.W.Frag) : Bool := fa2.ok K
def bx3 (K : PySem.W.Frag) : Bool := fa3.ok K
def bx4 (K : PySem.W.Frag) : Bool := fa4.ok K
def bx5 (K : PySem.W.Frag) : Bool := fa5.ok K
def bx6 (K : PySem.W.Frag) : Bool := fa6.ok K
def bx7 (K : PySem.W.Frag) : Bool := fa7.ok K
def bx8 (K : PySem.W.Frag) : Bool := fa8.ok K
def bx9 (K : PySem.W.Frag) : Bool := fa9.ok K
def bx10 (K : PySem.W.Frag) : Bool := fa10.ok K
def bx11 (K : PySem.W.Frag) : Bool := fa11.ok K
def bx12 (K : PySem.W.Frag) : Bool := fa12.ok K
def bx13 (K : PySem.W.Frag) : Bool := fa13.ok K
def bx14 (K : PySem.W.Frag) : Bool := fa14.ok K
def bx15 (K : PySem.W.Frag) : Bool := fa15.ok K
def bx16 (K : PySem.W.Frag) : Bool := fa16.ok K
def bx17 (K : PySem.W.Frag) : Bool := fa17.ok K
def bx18 (K : PySem.W.Frag) : Bool := fa18.ok K
def bx19 (K : PySem.W.Frag) : Bool := fa19.ok K
def bx20 (K : PySem.W.Frag) : Bool := isgL.all fun f => (Fa.glo (fnAt f)).ok K
def bx21 (K : PySem.W.Frag) : Bool := bltNames.all fun x => (Fa.free x).ok K
def bx22 (K : PySem.W.Frag) : Bool := (List.range 101).all fun f => keepIn K (.ref (fAd K (pathAt f)))
def bx23 (K : PySem.W.Frag) : Bool := at_Gate.all fun f => (Fa.noat "Gate" (symAt f)).ok K
def bx24 (K : PySem.W.Frag) : Bool := eqO (nsIn K mainGlobals "gcd") (some (some (.builtin "math.gcd")))
def bx25 (K : PySem.W.Frag) : Bool := tupB K "ZERO_slack" [.int 0, .int 1]
def bx26 (K : PySem.W.Frag) : Bool := tupB K "NO_MORE" [.int 0, .int 1]
def bx27 (K : PySem.W.Frag) : Bool := tupB K "ZERO_moments" [.int 0, .int 1]
def bx28 (K : PySem.W.Frag) : Bool := tupB K "ZERO_running" [.int 0, .int 1]
def bx29 (K : PySem.W.Frag) : Bool := xfB K (ga K "InvalidRow")
def bx30 (K : PySem.W.Frag) : Bool := ownB K ("InvalidRow", some "__init__") (ga K "InvalidRow") "index" "InvalidRow.__init__" "/claim/cut.py"
def bx31 (K : PySem.W.Frag) : Bool := emptyB K (dflAt ("path_table", none) 0 K)
def bx (K : PySem.W.Frag) : Bool := (bx0 K && (bx1 K && (bx2 K && (bx3 K && (bx4 K && (bx5 K && (bx6 K && (bx7 K && (bx8 K && (bx9 K && (bx10 K && (bx11 K && (bx12 K && (bx13 K && (bx14 K && (bx15 K && (bx16 K && (bx17 K && (bx18 K && (bx19 K && (bx20 K && (bx21 K && (bx22 K && (bx23 K && (bx24 K && (bx25 K && (bx26 K && (bx27 K && (bx28 K && (bx29 K && (bx30 K && bx31 K)))))))))))))))))))))))))))))))
theorem bx_all {K : PySem.W.Frag} (h : bx K = true) : bx0 K = true ∧ bx1 K = true ∧ bx2 K = true ∧ bx3 K = true ∧ bx4 K = true ∧ bx5 K = true ∧ bx6 K = true ∧ bx7 K = true ∧ bx8 K = true ∧ bx9 K = true ∧ bx10 K = true ∧ bx11 K = true ∧ bx12 K = true ∧ bx13 K = true ∧ bx14 K = true ∧ bx15 K = true ∧ bx16 K = true ∧ bx17 K = true ∧ bx18 K = true ∧ bx19 K = true ∧ bx20 K = true ∧ bx21 K = true ∧ bx22 K = true ∧ bx23 K = true ∧ bx24 K = true ∧ bx25 K = true ∧ bx26 K = true ∧ bx27 K = true ∧ bx28 K = true ∧ bx29 K = true ∧ bx30 K = true ∧ bx31 K = true := by
  simpa only [bx, Bool.and_eq_true] using h
abbrev hk : Hook := hookX 4 bx fnl xsl
def ob (s : SharedT) : AlD := obsXG 4 bx fnl xsl (HandSHeadRun.getT s)
theorem ob_eq (s : SharedT) : ob s = hk.obs s.abs := obsXG_eq (HandSHeadRun.getT_eq s)
theorem run1 (w : World) : (HandSHeadRun.wholeF (fun p => HandSHeadRun.stepQ (HandSHeadRun.denQ HandSHeadRun.tabQ) p w) HandSHeadRun.fenceQ 20000 R.prog).map (fun x => HandSHeadRun.looksF R.prog x.1.heap x.2.abs) = some true := by
  kernel_rfl
theorem run2 (w : World) : (HandSHeadRun.wholeF (fun p => HandSHeadRun.stepQ (HandSHeadRun.denQ HandSHeadRun.tabQ) p w) HandSHeadRun.fenceQ 20000 R.prog).map (fun x => HandSHeadRun.seenQ qv loose (importedModules R.prog.main.body) (fun s => xlAt qv [] s && recOk R.toRowW.records s) x.2.abs) = some (openGood qv loose) := by
  kernel_rfl
theorem run3 (w : World) : (HandSHeadRun.wholeF (fun p => HandSHeadRun.stepQ (HandSHeadRun.denQ HandSHeadRun.tabQ) p w) HandSHeadRun.fenceQ 20000 R.prog).map (fun x => (obsXG 4 bx [] [] (HandSHeadRun.getT x.2)).1) = some true := by
  kernel_rfl
theorem run4 (w : World) : (HandSHeadRun.wholeF (fun p => HandSHeadRun.stepQ (HandSHeadRun.denQ HandSHeadRun.tabQ) p w) HandSHeadRun.fenceQ 20000 R.prog).map (fun x => obsXG 4 (fun _ => true) fnl xsl (HandSHeadRun.getT x.2)) = some (valX fnl xsl) := by
  kernel_rfl
theorem run (w : World) : HandSHeadRun.RunEqI R qv hk ob 20000 loose w := map3 (run1 w) (run2 w) (map2X (run3 w) (run4 w))
end K87
end
section
set_option Elab.async false
set_option linter.all false
set_option maxRecDepth 100000
set_option maxHeartbeats 0
/-! K87Prc: small looks at the law's row. -/
namespace K87
open PySem PySem.W PySem.Calls PyProof.Rows
abbrev dd : DefRec := HandSHeadRun.topDef R.prog 155
theorem f_def : defOf qv R.name = some (dd, []) := by kernel_rfl
theorem f_the : R.prog.theDef R.name = some (dd.params, dd.body, dd.scope) := by kernel_rfl
theorem f_kw : kwWritten? dd.params.kwonlyargs dd.params.kw_defaults = some [] := by kernel_rfl
theorem f_wr : (!R.writes || R.records.isEmpty) = true := by rfl
theorem f_ok : (chainsOk qv && opensWell R.prog && (frees R.toRowW && R.within.isEmpty)) = true := by decide +kernel
theorem f_bare : R.prog.bare := ⟨rfl, rfl, rfl, rfl, rfl, by decide +kernel⟩
theorem f_wit : R.toRowW.promised := by w_witness2
theorem f_name : dd.name = ("law" : PySem.Str) := by kernel_rfl
theorem f_dfl : dd.params.defaults = [] := by kernel_rfl
theorem f_file : ((PySem.Challenge.rw_bellrest_k87_slack_in_tables.prog.main.file : PySem.Str) == ("/claim/cut.py" : PySem.Str)) = true := by kernel_rfl
theorem f_sup : (PySem.Challenge.rw_bellrest_k87_slack_in_tables.prog.main.scope.names.lookup ("super" : PySem.Str)).isSome = false := by kernel_rfl
end K87
end
section
set_option Elab.async false
set_option linter.all false
set_option maxRecDepth 100000
set_option maxHeartbeats 4000000
/-! BrRep: how plain values lie in the hand layer's heap. -/
namespace BR
open PySem PySem.Spec PyProof.Rows L2

/-- the module as it stands: the written part, the addresses of defs and classes, the names -/
structure Wd where
  K : PySem.W.Frag
  fa : Nat → Addr
  ca : Nat → Addr
  sym : Nat → Str
  xf : Nat → List Nat

/-- where the things of the store stand; what stands beside it that is under way -/
structure Mp where
  at_ : Nat → Addr
  hid : Addr → Prop
instance : CoeFun Mp (fun _ => Nat → Addr) := ⟨Mp.at_⟩
def live : Cell → Prop
  | .dead => False
  | _ => True
def Own (st : Sto) (m : Mp) (a : Addr) : Prop := (∃ (n : Nat) (c : Cell), st[n]? = some c ∧ live c ∧ m n = a) ∨ m.hid a

/-- a tuple of the written part -/
def TupK (K : PySem.W.Frag) (a : Addr) (xs : List V) : Prop := ∃ (o : Obj) (its : Array Value) (n : Nat), K.lookup a = some o ∧ o.cls = .type "tuple" ∧ o.data = .seq its n ∧ its.size ≤ sizeLine ∧ Vals xs its.toList

/-- a list of the written part -/
def ListK (K : PySem.W.Frag) (a : Addr) (xs : List V) : Prop := ∃ (o : Obj) (its : Array Value) (n : Nat), K.lookup a = some o ∧ o.cls = .type "list" ∧ o.dict = none ∧ o.data = .seq its n ∧ its.size ≤ sizeLine ∧ Vals xs its.toList

mutual
inductive Rep (W : Wd) (st : Sto) (m : Mp) (H : Hp) : V → PV → Prop
  | non : Rep W st m H .non .non
  | bl (b : Bool) : Rep W st m H (.bl b) (.bl b)
  | int (i : Int) : Rep W st m H (.int i) (.int i)
  | str {s : Str} : s.length ≤ sizeLine → Rep W st m H (.str s) (.str s)
  | tup {a : Addr} {vs : List V} {xs : List PV} : H a = some (.tup vs) → ¬ Own st m a → xs.length ≤ sizeLine → RepL W st m H vs xs → Rep W st m H (.ref a) (.tup xs)
  | tupK {a : Addr} {vs : List V} {xs : List PV} : TupK W.K a vs → xs.length ≤ sizeLine → RepL W st m H vs xs → Rep W st m H (.ref a) (.tup xs)
  | lst {a : Addr} {vs : List V} {xs : List PV} : H a = some (.lst vs) → ¬ Own st m a → xs.length ≤ sizeLine → RepL W st m H vs xs → Rep W st m H (.ref a) (.lst xs)
  | arg {a : Addr} {o : Obj} {vs : List V} {xs : List PV} : H a = some (.frz o (.lst vs)) → ¬ Own st m a → xs.length ≤ sizeLine → RepL W st m H vs xs → Rep W st m H (.ref a) (.arg xs)
  | argK {a : Addr} {vs : List V} {xs : List PV} : ListK W.K a vs → xs.length ≤ sizeLine → RepL W st m H vs xs → Rep W st m H (.ref a) (.arg xs)
  | tpd {a : Addr} {o : Obj} {vs : List V} {xs : List PV} : H a = some (.frz o (.tup vs)) → o.dict = none → ¬ Own st m a → xs.length ≤ sizeLine → RepL W st m H vs xs → Rep W st m H (.ref a) (.tpd xs)
  | dct {a : Addr} {kvs : List (Key × V)} {vs : List PV} : H a = some (.dK kvs) → ¬ Own st m a → RepL W st m H (kvs.map (·.2)) vs → Rep W st m H (.ref a) (.dct (kvs.map (·.1)) vs)
  | obj {a dx : Addr} {c : Nat} {fv : List (Str × V)} {fs : List Nat} {vs : List PV} : H a = some (.ins (W.ca c) dx fv) → ¬ Own st m a → fv.map (·.1) = fs.map W.sym → RepL W st m H (fv.map (·.2)) vs → Rep W st m H (.ref a) (.obj c fs vs)
  | fn (f : Nat) : Rep W st m H (.ref (W.fa f)) (.fn f)
  | ref {n : Nat} : n < st.length → Rep W st m H (.ref (m n)) (.ref n)
inductive RepL (W : Wd) (st : Sto) (m : Mp) (H : Hp) : List V → List PV → Prop
  | nil : RepL W st m H [] []
  | cons {v : V} {vs : List V} {x : PV} {xs : List PV} : Rep W st m H v x → RepL W st m H vs xs → RepL W st m H (v :: vs) (x :: xs)
end

structure Le0 (st : Sto) (m : Mp) (H : Hp) (st' : Sto) (m' : Mp) (H' : Hp) : Prop where
  len : st.length ≤ st'.length
  map : ∀ n, n < st.length → m' n = m n
  keep : ∀ a o, H a = some o → ¬ Own st m a → H' a = some o ∧ ¬ Own st' m' a
structure Le (st : Sto) (m : Mp) (H : Hp) (st' : Sto) (m' : Mp) (H' : Hp) : Prop extends Le0 st m H st' m' H' where
  hid : m'.hid = m.hid
  hkeep : ∀ a, m.hid a → H' a = H a

section
variable {W : Wd} {st st' st'' : Sto} {m m' m'' : Mp} {H H' H'' : Hp} {v : V} {x : PV} {vs : List V} {xs : List PV} {a p : Addr} {o : HO}
theorem Le0.refl : Le0 st m H st m H := ⟨Nat.le_refl _, fun _ _ => rfl, fun _ _ e n => ⟨e, n⟩⟩
theorem Le0.trans (a : Le0 st m H st' m' H') (b : Le0 st' m' H' st'' m'' H'') : Le0 st m H st'' m'' H'' :=
  ⟨Nat.le_trans a.len b.len, fun n h => (b.map n (Nat.lt_of_lt_of_le h a.len)).trans (a.map n h), fun c o e n => let ⟨e1, n1⟩ := a.keep c o e n; b.keep c o e1 n1⟩
theorem Le.refl : Le st m H st m H := ⟨Le0.refl, rfl, fun _ _ => rfl⟩
theorem Le.trans (a : Le st m H st' m' H') (b : Le st' m' H' st'' m'' H'') : Le st m H st'' m'' H'' :=
  ⟨a.toLe0.trans b.toLe0, b.hid.trans a.hid, fun x h => (b.hkeep x (by rw [a.hid]; exact h)).trans (a.hkeep x h)⟩

mutual
theorem Rep.le0 (l : Le0 st m H st' m' H') {v : V} {x : PV} (r : Rep W st m H v x) : Rep W st' m' H' v x := match r with
  | .non => .non
  | .bl b => .bl b
  | .int i => .int i
  | .str h => .str h
  | .tup e n z q => .tup (l.keep _ _ e n).1 (l.keep _ _ e n).2 z (q.le0 l)
  | .tupK k z q => .tupK k z (q.le0 l)
  | .lst e n z q => .lst (l.keep _ _ e n).1 (l.keep _ _ e n).2 z (q.le0 l)
  | .arg e n z q => .arg (l.keep _ _ e n).1 (l.keep _ _ e n).2 z (q.le0 l)
  | .argK k z q => .argK k z (q.le0 l)
  | .tpd e d n z q => .tpd (l.keep _ _ e n).1 d (l.keep _ _ e n).2 z (q.le0 l)
  | .dct e n q => .dct (l.keep _ _ e n).1 (l.keep _ _ e n).2 (q.le0 l)
  | .obj e n z q => .obj (l.keep _ _ e n).1 (l.keep _ _ e n).2 z (q.le0 l)
  | .fn f => .fn f
  | .ref (n := n) h => by
    rw [← l.map n h]
    exact .ref (Nat.lt_of_lt_of_le h l.len)
theorem RepL.le0 (l : Le0 st m H st' m' H') {vs : List V} {xs : List PV} (r : RepL W st m H vs xs) : RepL W st' m' H' vs xs := match r with
  | .nil => .nil
  | .cons a b => .cons (a.le0 l) (b.le0 l)
end

theorem Rep.le (l : Le st m H st' m' H') {v : V} {x : PV} (r : Rep W st m H v x) : Rep W st' m' H' v x := r.le0 l.toLe0
theorem RepL.le (l : Le st m H st' m' H') {vs : List V} {xs : List PV} (r : RepL W st m H vs xs) : RepL W st' m' H' vs xs := r.le0 l.toLe0
theorem RepL.length : ∀ {vs : List V} {xs : List PV}, RepL W st m H vs xs → vs.length = xs.length
  | _, _, .nil => rfl
  | _, _, .cons _ t => congrArg Nat.succ t.length
theorem RepL.get : ∀ {vs : List V} {xs : List PV} {i : Nat} {x : PV}, RepL W st m H vs xs → xs[i]? = some x → ∃ v, vs[i]? = some v ∧ Rep W st m H v x
  | _, _, _, _, .nil, e => by simp at e
  | _, _, 0, _, .cons r _, e => by simp at e; subst e; exact ⟨_, rfl, r⟩
  | _, _, i + 1, x, .cons _ t, e => by
    obtain ⟨u, h1, h2⟩ := RepL.get (i := i) (x := x) t (by simpa using e)
    exact ⟨u, by simpa using h1, h2⟩
theorem RepL.append : ∀ {vs ws : List V} {xs ys : List PV}, RepL W st m H vs xs → RepL W st m H ws ys → RepL W st m H (vs ++ ws) (xs ++ ys)
  | _, _, _, _, .nil, s => s
  | _, _, _, _, .cons r t, s => .cons r (t.append s)
theorem RepL.take : ∀ {vs : List V} {xs : List PV} (n : Nat), RepL W st m H vs xs → RepL W st m H (vs.take n) (xs.take n)
  | _, _, 0, _ => .nil
  | _, _, _ + 1, .nil => .nil
  | _, _, n + 1, .cons r t => .cons r (t.take n)
theorem RepL.drop : ∀ {vs : List V} {xs : List PV} (n : Nat), RepL W st m H vs xs → RepL W st m H (vs.drop n) (xs.drop n)
  | _, _, 0, r => r
  | _, _, _ + 1, .nil => .nil
  | _, _, n + 1, .cons _ t => t.drop n
theorem RepL.set {v : V} {x : PV} (r : Rep W st m H v x) : ∀ {vs : List V} {xs : List PV} (i : Nat), RepL W st m H vs xs → RepL W st m H (vs.set i v) (xs.set i x)
  | _, _, _, .nil => .nil
  | _, _, 0, .cons _ t => .cons r t
  | _, _, i + 1, .cons q t => .cons q (t.set r i)
theorem RepL.rep (r : RepL W st m H vs xs) : ∀ k : Nat, RepL W st m H (List.replicate k vs).flatten (List.replicate k xs).flatten
  | 0 => .nil
  | k + 1 => by
    rw [List.replicate_succ, List.replicate_succ, List.flatten_cons, List.flatten_cons]
    exact r.append (r.rep k)
theorem RepL.cut (r : RepL W st m H vs xs) (lo hi : Option Int) : RepL W st m H (cutV vs lo hi) (cutP xs lo hi) := by
  unfold cutV cutP
  rw [r.length]
  exact (r.drop _).take _

/-- a cell as it lies at a -/
def CellR (W : Wd) (st : Sto) (m : Mp) (H : Hp) (a : Addr) : Cell → Prop
  | .dead => True
  | .lst xs => ∃ vs, H a = some (.lst vs) ∧ xs.length ≤ sizeLine ∧ RepL W st m H vs xs
  | .dct ks xs => ∃ kvs : List (Key × V), H a = some (.dK kvs) ∧ kvs.map (·.1) = ks ∧ RepL W st m H (kvs.map (·.2)) xs
  | .obj c fs xs => ∃ (dx : Addr) (fv : List (Str × V)), H a = some (.ins (W.ca c) dx fv) ∧ fv.map (·.1) = fs.map W.sym ∧ RepL W st m H (fv.map (·.2)) xs
structure RSt (W : Wd) (st : Sto) (m : Mp) (H : Hp) : Prop where
  cell : ∀ n c, st[n]? = some c → CellR W st m H (m n) c
  inj : ∀ n n' c c', st[n]? = some c → st[n']? = some c' → live c → live c' → m n = m n' → n = n'
  hid : ∀ a, m.hid a → ∃ o, H a = some o ∧ Mut (some o)
  hinj : ∀ n c, st[n]? = some c → live c → ¬ m.hid (m n)
/-- the slots -/
def REnv (W : Wd) (st : Sto) (m : Mp) (H : Hp) (σ : L2.St) (env : Env) : Prop := σ.length = env.length ∧ ∀ i x, look env i = some x → ∃ v, σ[i]? = some (some v) ∧ Rep W st m H v x

theorem REnv.le {σ : L2.St} {env : Env} (r : REnv W st m H σ env) (l : Le st m H st' m' H') : REnv W st' m' H' σ env :=
  ⟨r.1, fun i x e => let ⟨v, h1, h2⟩ := r.2 i x e; ⟨v, h1, h2.le l⟩⟩
theorem CellR.le0 {c : Cell} (h : CellR W st m H a c) (l : Le0 st m H st' m' H') (k : H' a = H a) : CellR W st' m' H' a c := by
  cases c with
  | dead => trivial
  | lst xs => obtain ⟨vs, e, z, q⟩ := h; exact ⟨vs, k.trans e, z, q.le0 l⟩
  | dct ks xs => obtain ⟨kvs, e, z, q⟩ := h; exact ⟨kvs, k.trans e, z, q.le0 l⟩
  | obj c fs xs => obtain ⟨dx, fv, e, z, q⟩ := h; exact ⟨dx, fv, k.trans e, z, q.le0 l⟩
theorem CellR.le {c : Cell} (h : CellR W st m H a c) (l : Le st m H st' m' H') (k : H' a = H a) : CellR W st' m' H' a c := h.le0 l.toLe0 k
theorem CellR.some {c : Cell} (h : CellR W st m H a c) (lv : live c) : ∃ o, H a = some o ∧ Mut (some o) := by
  cases c with
  | dead => exact lv.elim
  | lst xs => obtain ⟨vs, e, _⟩ := h; exact ⟨_, e, trivial⟩
  | dct ks xs => obtain ⟨kvs, e, _⟩ := h; exact ⟨_, e, trivial⟩
  | obj c fs xs => obtain ⟨dx, fv, e, _⟩ := h; exact ⟨_, e, trivial⟩
theorem RSt.own (r : RSt W st m H) (h : Own st m a) : ∃ o, H a = Option.some o ∧ Mut (Option.some o) := by
  rcases h with ⟨n, c, e, lv, rfl⟩ | h
  · exact (r.cell n c e).some lv
  · exact r.hid a h
theorem RSt.nown (r : RSt W st m H) (h : H a = none) : ¬ Own st m a := fun z => by
  obtain ⟨o, e, _⟩ := r.own z
  rw [h] at e; cases e
/-- a new thing is laid -/
theorem Le.new (r : RSt W st m H) (h : H p = none) : Le st m H st m (upd H p o) :=
  ⟨⟨Nat.le_refl _, fun _ _ => rfl, fun a u e n => ⟨by rw [upd_ne (fun z => by rw [z, h] at e; cases e)]; exact e, n⟩⟩, rfl, fun a ha => by
    obtain ⟨u, e, _⟩ := r.hid a ha
    rw [upd_ne (fun z => by rw [z, h] at e; cases e)]⟩
theorem RSt.new (r : RSt W st m H) (h : H p = none) : RSt W st m (upd H p o) := by
  refine ⟨fun n c e => ?_, r.inj, fun a ha => ?_, r.hinj⟩
  rotate_left
  · obtain ⟨u, e, mu⟩ := r.hid a ha
    exact ⟨u, by rw [upd_ne (fun z => by rw [z, h] at e; cases e)]; exact e, mu⟩
  cases c with
  | dead => trivial
  | _ =>
    refine (r.cell n _ e).le (Le.new r h) (upd_ne fun z => ?_)
    obtain ⟨u, e1, _⟩ := (r.cell n _ e).some trivial
    rw [z, h] at e1; cases e1
/-- the end of the store is let go -/
theorem own_take {n : Nat} (h : Own (st.take n) m a) : Own st m a := by
  rcases h with ⟨i, c, e, lv, q⟩ | h
  · rw [List.getElem?_take] at e
    split at e
    · exact .inl ⟨i, c, e, lv, q⟩
    · cases e
  · exact .inr h

mutual
theorem Rep.be {v : V} {x : PV} (r : Rep W st m H v x) : PV.be st.length x = true := match r with
  | .non => rfl
  | .bl b => rfl
  | .int i => rfl
  | .str h => rfl
  | .tup e k z q => by simpa only [PV.be] using q.be
  | .tupK k z q => by simpa only [PV.be] using q.be
  | .lst e k z q => by simpa only [PV.be] using q.be
  | .arg e k z q => by simpa only [PV.be] using q.be
  | .argK k z q => by simpa only [PV.be] using q.be
  | .tpd e d k z q => by simpa only [PV.be] using q.be
  | .dct e k q => by simpa only [PV.be] using q.be
  | .obj e k z q => by simpa only [PV.be] using q.be
  | .fn f => rfl
  | .ref h => by simpa only [PV.be, decide_eq_true_eq] using h
theorem RepL.be {vs : List V} {xs : List PV} (r : RepL W st m H vs xs) : PV.bes st.length xs = true := match r with
  | .nil => rfl
  | .cons a b => by
    simp only [PV.bes, Bool.and_eq_true]
    exact ⟨a.be, b.be⟩
end
mutual
theorem PV.be_pu (n : Nat) : ∀ x : PV, PV.pu x = true → PV.be n x = true
  | .non, _ => rfl
  | .bl _, _ => rfl
  | .int _, _ => rfl
  | .str _, _ => rfl
  | .fn _, _ => rfl
  | .tup xs, h => by simp only [PV.be]; exact PV.bes_pu n xs (by simpa only [PV.pu] using h)
  | .lst xs, h => by simp only [PV.be]; exact PV.bes_pu n xs (by simpa only [PV.pu] using h)
  | .arg xs, h => by simp only [PV.be]; exact PV.bes_pu n xs (by simpa only [PV.pu] using h)
  | .tpd xs, h => by simp only [PV.be]; exact PV.bes_pu n xs (by simpa only [PV.pu] using h)
  | .dct _ xs, h => by simp only [PV.be]; exact PV.bes_pu n xs (by simpa only [PV.pu] using h)
  | .obj _ _ xs, h => by simp only [PV.be]; exact PV.bes_pu n xs (by simpa only [PV.pu] using h)
  | .ref _, h => by simp only [PV.pu] at h; cases h
theorem PV.bes_pu (n : Nat) : ∀ xs : List PV, PV.pus xs = true → PV.bes n xs = true
  | [], _ => rfl
  | x :: xs, h => by
    simp only [PV.pus, Bool.and_eq_true] at h
    simp only [PV.bes, Bool.and_eq_true]
    exact ⟨PV.be_pu n x h.1, PV.bes_pu n xs h.2⟩
end
mutual
theorem Rep.tk {n : Nat} (hn : n ≤ st.length) {v : V} {x : PV} (r : Rep W st m H v x) (h : PV.be n x = true) : Rep W (st.take n) m H v x := match r with
  | .non => .non
  | .bl b => .bl b
  | .int i => .int i
  | .str h => .str h
  | .tup e k z q => .tup e (fun w => k (own_take w)) z (q.tk hn (by simpa only [PV.be] using h))
  | .tupK k z q => .tupK k z (q.tk hn (by simpa only [PV.be] using h))
  | .lst e k z q => .lst e (fun w => k (own_take w)) z (q.tk hn (by simpa only [PV.be] using h))
  | .arg e k z q => .arg e (fun w => k (own_take w)) z (q.tk hn (by simpa only [PV.be] using h))
  | .argK k z q => .argK k z (q.tk hn (by simpa only [PV.be] using h))
  | .tpd e d k z q => .tpd e d (fun w => k (own_take w)) z (q.tk hn (by simpa only [PV.be] using h))
  | .dct e k q => .dct e (fun w => k (own_take w)) (q.tk hn (by simpa only [PV.be] using h))
  | .obj e k z q => .obj e (fun w => k (own_take w)) z (q.tk hn (by simpa only [PV.be] using h))
  | .fn f => .fn f
  | .ref (n := i) hi => .ref (by
    rw [List.length_take]
    have h' : i < n := by simpa only [PV.be, decide_eq_true_eq] using h
    omega)
theorem RepL.tk {n : Nat} (hn : n ≤ st.length) {vs : List V} {xs : List PV} (r : RepL W st m H vs xs) (h : PV.bes n xs = true) : RepL W (st.take n) m H vs xs := match r with
  | .nil => .nil
  | .cons a b => by
    simp only [PV.bes, Bool.and_eq_true] at h
    exact .cons (a.tk hn h.1) (b.tk hn h.2)
end
/-- a cell behind the cut -/
theorem CellR.tk {n : Nat} (hn : n ≤ st.length) {c : Cell} (h : CellR W st m H a c) (k : Cell.be n c = true) : CellR W (st.take n) m H a c := by
  cases c with
  | dead => trivial
  | lst xs => obtain ⟨vs, e, z, q⟩ := h; exact ⟨vs, e, z, q.tk hn k⟩
  | dct ks xs => obtain ⟨kvs, e, z, q⟩ := h; exact ⟨kvs, e, z, q.tk hn k⟩
  | obj c fs xs => obtain ⟨dx, fv, e, z, q⟩ := h; exact ⟨dx, fv, e, z, q.tk hn k⟩
theorem CellR.be {c : Cell} (h : CellR W st m H a c) : Cell.be st.length c = true := by
  cases c with
  | dead => rfl
  | lst xs => obtain ⟨vs, e, z, q⟩ := h; exact q.be
  | dct ks xs => obtain ⟨kvs, e, z, q⟩ := h; exact q.be
  | obj c fs xs => obtain ⟨dx, fv, e, z, q⟩ := h; exact q.be
theorem RSt.tk (r0 : RSt W st m H) (r : RSt W st' m' H') (c : cuts st st') : RSt W (st'.take st.length) m' H' := by
  have get : ∀ n c, (st'.take st.length)[n]? = some c → st'[n]? = some c ∧ n < st.length := fun n c e => by
    rw [List.getElem?_take] at e
    split at e
    · exact ⟨e, by assumption⟩
    · cases e
  refine ⟨fun n c' e => ?_, fun n n' c1 c2 e1 e2 l1 l2 q => r.inj n n' c1 c2 (get _ _ e1).1 (get _ _ e2).1 l1 l2 q, r.hid, fun n c' e l1 => r.hinj n c' (get _ _ e).1 l1⟩
  refine (r.cell n c' (get _ _ e).1).tk c.1 ?_
  rcases c.2 with h | h
  · rw [h] at e
    exact (r0.cell n c' e).be
  · exact List.all_eq_true.mp h c' (List.mem_of_getElem? e)
theorem Le.tk (l : Le st m H st' m' H') (c : cuts st st') : Le st m H (st'.take st.length) m' H' :=
  ⟨⟨by rw [List.length_take]; exact Nat.le_min.mpr ⟨Nat.le_refl _, c.1⟩, l.map, fun a o e n => let ⟨e1, n1⟩ := l.keep a o e n; ⟨e1, fun z => n1 (own_take z)⟩⟩, l.hid, l.hkeep⟩
end
end BR
end
section
set_option Elab.async false
set_option linter.all false
set_option maxRecDepth 100000
set_option maxHeartbeats 4000000
/-! BrChk: does a Python text say what a small text says? -/
namespace BR
open PySem PySem.Spec PyProof.Rows L2

structure Nms where
  sym : Nat → Str
  fnm : Nat → Str
  isg : Nat → Bool
  isc : Nat → Bool
  isr : Nat → Bool
  isx : Nat → Nat → Bool

def nb (x : Str) : Bool := !(x == ("__debug__" : Str)) && !(x == ("__classdict__" : Str)) && !decide (x = ("__name__" : Str))
def visB (sc : Scope) (x : Str) : Bool := match sc.names.lookup x with
  | some .local => true
  | some .cell => true
  | some .free => true
  | _ => false
def glB (sc : Scope) (x : Str) : Bool := match sc.names.lookup x with
  | some .globalImplicit => true
  | _ => false
/-- may be stored: a local; a cell where cells are the block's own -/
def locB (sc : Scope) (fnb : Str → Bool) (x : Str) : Bool := match sc.names.lookup x with
  | some .local => true
  | some .cell => fnb x
  | _ => false
def isStar : Expr → Bool
  | .Starred _ _ => true
  | _ => false
def noSup : Expr → Bool
  | .Call (.Name _ _) [] [] _ => false
  | _ => true
def isLc : Expr → Bool
  | .ListComp _ _ _ _ => true
  | .SetComp _ _ _ _ => true
  | .DictComp _ _ _ _ _ => true
  | _ => false
def isSlice : Expr → Bool
  | .Slice _ _ _ _ => true
  | _ => false
def opB : Op2 → Operator → Bool
  | .add, .Add => true
  | .sub, .Sub => true
  | .mul, .Mult => true
  | .fdiv, .FloorDiv => true
  | .mod, .Mod => true
  | .pow, .Pow => true
  | _, _ => false
def cpB : Cp → CmpOp → Bool
  | .lt, .Lt => true
  | .le, .LtE => true
  | .gt, .Gt => true
  | .ge, .GtE => true
  | .eq, .Eq => true
  | .ne, .NotEq => true
  | .isN, .Is => true
  | .notN, .IsNot => true
  | .inn, .In => true
  | .notin, .NotIn => true
  | _, _ => false
def isNonE : Expr → Bool
  | .Constant .none _ _ => true
  | _ => false
def isNoneCp : Cp → Bool
  | .isN => true
  | .notN => true
  | _ => false
def bltN : Blt → Str
  | .len => "len" | .abs => "abs" | .min => "min" | .max => "max" | .int => "int" | .list => "list" | .tuple => "tuple" | .tuplei => "tuple" | .gcd => "gcd" | .all => "all" | .any => "any" | .sorted => "sorted"
def tyN : Ty → Str
  | .int => "int" | .bool => "bool" | .str => "str" | .tuple => "tuple"
def bmN : Bm → Str
  | .join => "join" | .split => "split" | .index => "index"
def plainT : Expr → Bool
  | .UnaryOp .Not _ _ => false
  | .BoolOp _ _ _ => false
  | .IfExp _ _ _ _ => false
  | .Compare _ _ _ _ => false
  | _ => true
/-- an expression that may stand as a test -/
def tstP : E → Expr → Bool
  | .and a b, .BoolOp .And (x :: y :: r) p => tstP a x && tstP b (.BoolOp .And (y :: r) p)
  | .or a b, .BoolOp .Or (x :: y :: r) p => tstP a x && tstP b (.BoolOp .Or (y :: r) p)
  | .one a, .BoolOp _ [x] _ => tstP a x
  | .not a, .UnaryOp .Not l _ => tstP a l
  | .cmp _ _ _, .Compare _ [_] [_] _ => true
  | .chain _ _ _ _ _, .Compare _ [_, _] [_, _] _ => true
  | _, pe => plainT pe
def isSetE : Expr → Bool
  | .Set _ _ _ => true
  | _ => false
/-- an expression whose answer is a new list or dict -/
def fresh : E → Bool
  | .lst _ => true
  | .newd => true
  | .bin .add _ _ => true
  | .blt .list _ => true
  | _ => false
mutual
def chkTg (N : List Str) (sc : Scope) (fnb : Str → Bool) : Tg → Expr → Bool
  | .nm i, .Name x _ => decide (N[i]? = some x) && locB sc fnb x && nb x
  | .tup ts, .Tuple es _ _ => chkTgs N sc fnb ts es
  | _, _ => false
def chkTgs (N : List Str) (sc : Scope) (fnb : Str → Bool) : Tgs → List Expr → Bool
  | .nil, [] => true
  | .cons t ts, e :: es => chkTg N sc fnb t e && chkTgs N sc fnb ts es
  | _, _ => false
end
mutual
/-- the target stores into the block's own slots alone -/
def wipeOk (own : List (Str × Nat)) : Tg → Bool
  | .nm i => (own.map (·.2)).contains i
  | .tup ts => wipeOks own ts
def wipeOks (own : List (Str × Nat)) : Tgs → Bool
  | .nil => true
  | .cons t ts => wipeOk own t && wipeOks own ts
end
section
variable (nm : Nms) (N : List Str)
mutual
def chkE : E → Scope → Expr → Bool
  | .var i, sc, pe => (match pe with
    | .Name x _ => decide (N[i]? = some x) && visB sc x && nb x
    | _ => false)
  | .int n, _, pe => (match pe with
    | .Constant (.int k) _ _ => decide (n = k)
    | _ => false)
  | .bl b, _, pe => (match pe with
    | .Constant (.bool c) _ _ => decide (b = c)
    | _ => false)
  | .str s, _, pe => (match pe with
    | .Constant (.str t) _ _ => decide (Str.ofString s = t) && decide (t.length ≤ 1000)
    | _ => false)
  | .non, _, pe => (match pe with
    | .Constant .none _ _ => true
    | _ => false)
  | .glb x, sc, pe => (match pe with
    | .Name y _ => decide (nm.sym x = y) && glB sc y && nb y
    | _ => false)
  | .bin op a b, sc, pe => (match pe with
    | .BinOp l o r _ => opB op o && chkE a sc l && chkE b sc r
    | _ => false)
  | .neg a, sc, pe => (match pe with
    | .UnaryOp .USub l _ => chkE a sc l
    | _ => false)
  | .cmp op a b, sc, pe => (match pe with
    | .Compare l [o] [r] _ => cpB op o && chkE a sc l && chkE b sc r && (!isNoneCp op || isNonE r) && !behindInMarks o r
    | _ => false)
  | .chain o1 o2 a b c, sc, pe => (match pe with
    | .Compare l [p1, p2] [r1, r2] _ => cpB o1 p1 && cpB o2 p2 && chkE a sc l && chkE b sc r1 && chkE c sc r2 && !isNoneCp o1 && !isNoneCp o2 && !lastMarks [p1, p2] [r1, r2]
    | _ => false)
  | .and a b, sc, pe => (match pe with
    | .BoolOp .And (x :: y :: r) p => chkE a sc x && chkE b sc (.BoolOp .And (y :: r) p)
    | _ => false)
  | .or a b, sc, pe => (match pe with
    | .BoolOp .Or (x :: y :: r) p => chkE a sc x && chkE b sc (.BoolOp .Or (y :: r) p)
    | _ => false)
  | .one a, sc, pe => (match pe with
    | .BoolOp _ [x] _ => chkE a sc x
    | _ => false)
  | .not a, sc, pe => (match pe with
    | .UnaryOp .Not l _ => chkE a sc l
    | _ => false)
  | .ite t a b, sc, pe => (match pe with
    | .IfExp c l r _ => tstP t c && chkE t sc c && chkE a sc l && chkE b sc r
    | _ => false)
  | .tup es, sc, pe => (match pe with
    | .Tuple xs _ _ => chkEs es sc xs
    | _ => false)
  | .lst es, sc, pe => (match pe with
    | .List xs _ => chkEs es sc xs
    | _ => false)
  | .newd, _, pe => (match pe with
    | .Dict [] [] _ => true
    | _ => false)
  | .idx a b, sc, pe => (match pe with
    | .Subscript l r _ => !isSlice r && chkE a sc l && chkE b sc r
    | _ => false)
  | .slB a lo hi, sc, pe => (match pe with
    | .Subscript l (.Slice (some x) (some y) none _) _ => chkE a sc l && chkE lo sc x && chkE hi sc y
    | _ => false)
  | .slL a lo, sc, pe => (match pe with
    | .Subscript l (.Slice (some x) none none _) _ => chkE a sc l && chkE lo sc x
    | _ => false)
  | .slH a hi, sc, pe => (match pe with
    | .Subscript l (.Slice none (some y) none _) _ => chkE a sc l && chkE hi sc y
    | _ => false)
  | .fld a f, sc, pe => (match pe with
    | .Attribute l x _ => decide (nm.sym f = x) && noSup l && chkE a sc l
    | _ => false)
  | .call f es, sc, pe => (match pe with
    | .Call (.Name x _) (y :: xs) [] _ => nm.isg f && decide (nm.fnm f = x) && glB sc x && nb x && chkEs es sc (y :: xs) && !isStar y
    | _ => false)
  | .callv i es, sc, pe => (match pe with
    | .Call (.Name x _) (y :: xs) [] _ => decide (N[i]? = some x) && visB sc x && nb x && chkEs es sc (y :: xs) && !isStar y
    | _ => false)
  | .meth a m es, sc, pe => (match pe with
    | .Call (.Attribute l x ap) (y :: xs) [] p => (ap.endLine == p.line) && decide ((y :: xs).length < 30) && decide (nm.sym m = x) && noSup l && chkE a sc l && chkEs es sc (y :: xs) && !(y :: xs).any isStar
    | _ => false)
  | .mk c es, sc, pe => (match pe with
    | .Call (.Name x _) (y :: xs) [] _ => nm.isc c && decide (nm.sym c = x) && glB sc x && nb x && chkEs es sc (y :: xs) && !(y :: xs).any isStar
    | _ => false)
  | .blt b es, sc, pe => (match pe with
    | .Call (.Name x _) (y :: xs) [] _ => decide (bltN b = x) && glB sc x && chkEs es sc (y :: xs) && !(y :: xs).any isStar
    | _ => false)
  | .bm a m e, sc, pe => (match pe with
    | .Call (.Attribute l x ap) [y] [] p => decide (bmN m = x) && noSup l && (ap.endLine == p.line) && !isStar y && chkE a sc l && chkE e sc y
    | _ => false)
  | .isi a t, sc, pe => (match pe with
    | .Call (.Name x _) [y, .Name z _] [] _ => decide (("isinstance" : Str) = x) && decide (tyN t = z) && glB sc x && glB sc z && !isStar y && chkE a sc y
    | _ => false)
  | .lc it tg e own, sc, pe => (match pe with
    | .ListComp el [⟨t, i, [], 0⟩] scope _ => !isSetE i && chkI it sc t i && blkC N sc scope own && chkTg N (relS scope sc) (fun x => scope.names.lookup x == some .cell) tg t && chkE e (relS scope sc) el && wipeOk own tg
    | _ => false)
  | .lcc it tg c e own, sc, pe => (match pe with
    | .ListComp el [⟨t, i, [d], 0⟩] scope _ => tstP c d && !isSetE i && chkI it sc t i && blkC N sc scope own && chkTg N (relS scope sc) (fun x => scope.names.lookup x == some .cell) tg t && chkE c (relS scope sc) d && chkE e (relS scope sc) el && wipeOk own tg
    | _ => false)
  | .cell e, sc, pe => fresh e && chkE e sc pe
  | .frz i, sc, pe => (match pe with
    | .Name x _ => decide (N[i]? = some x) && visB sc x && nb x
    | _ => false)
def chkEs : Es → Scope → List Expr → Bool
  | .nil, _, pes => (match pes with
    | [] => true
    | _ => false)
  | .cons e es, sc, pes => (match pes with
    | x :: xs => !isStar x && chkE e sc x && chkEs es sc xs
    | _ => false)
  | .star e es, sc, pes => (match pes with
    | .Starred x _ :: xs => chkE e sc x && chkEs es sc xs
    | _ => false)
def chkI : It → Scope → Expr → Expr → Bool
  | .seq e, sc, _, pe => chkE e sc pe
  | .rng1 e, sc, _, pe => (match pe with
    | .Call (.Name x _) [y] [] _ => decide (("range" : Str) = x) && glB sc x && !isStar y && chkE e sc y
    | _ => false)
  | .rng2 a b, sc, _, pe => (match pe with
    | .Call (.Name x _) [y, z] [] _ => decide (("range" : Str) = x) && glB sc x && !isStar y && !isStar z && chkE a sc y && chkE b sc z
    | _ => false)
  | .enm e, sc, t, pe => (match t, pe with
    | .Tuple _ _ _, .Call (.Name x _) [y] [] _ => decide (("enumerate" : Str) = x) && glB sc x && !isStar y && chkE e sc y
    | _, _ => false)
  | .zip a b, sc, t, pe => (match t, pe with
    | .Tuple _ _ _, .Call (.Name x _) [y, z] [] _ => decide (("zip" : Str) = x) && glB sc x && !isStar y && !isStar z && chkE a sc y && chkE b sc z
    | _, _ => false)
  | .revr1 e, sc, _, pe => (match pe with
    | .Call (.Name x _) [.Call (.Name u _) [y] [] _] [] _ => decide (("reversed" : Str) = x) && glB sc x && decide (("range" : Str) = u) && glB sc u && !isStar y && chkE e sc y
    | _ => false)
end
end
def isTupE : Expr → Bool
  | .Tuple _ _ _ => true
  | .List _ _ => true
  | _ => false
section
variable (nm : Nms) (N : List Str) (sc : Scope)
mutual
def chkS : S → Stmt → Bool
  | .skip, st => (match st with
    | .Pass _ => true
    | .Expr (.Constant (.str _) _ _) _ => true
    | _ => false)
  | .seq _ _, _ => false
  | .wipe _, _ => false
  | .set (.nm i) e, st => (match st with
    | .Assign [.Name x _] pe _ => !isLc pe && decide (N[i]? = some x) && locB sc (fun _ => true) x && nb x && chkE nm N e sc pe
    | _ => false)
  | .set (.tup ts) e, st => (match st with
    | .Assign [.Tuple es _ _] pe _ => !isLc pe && !isTupE pe && chkTgs N sc (fun _ => true) ts es && chkE nm N e sc pe
    | _ => false)
  | .ex e, st => (match st with
    | .Expr pe _ => !isLc pe && chkE nm N e sc pe
    | _ => false)
  | .ret e, st => (match st with
    | .Return (some pe) _ => chkE nm N e sc pe
    | _ => false)
  | .retn, st => (match st with
    | .Return none _ => true
    | _ => false)
  | .ifs c a b, st => (match st with
    | .If pc xs ys _ => tstP c pc && chkE nm N c sc pc && chkSs a xs && chkSs b ys
    | _ => false)
  | .fors t it b, st => (match st with
    | .For tg iter xs [] _ => !isSetE iter && chkTg N sc (fun _ => true) t tg && chkI nm N it sc tg iter && chkSs b xs
    | _ => false)
  | .whil c b, st => (match st with
    | .While pc xs [] _ => tstP c pc && chkE nm N c sc pc && chkSs b xs
    | _ => false)
  | .brk, st => (match st with
    | .Break _ => true
    | _ => false)
  | .cont, st => (match st with
    | .Continue _ => true
    | _ => false)
  | .app l e, st => (match st with
    | .Expr (.Call (.Attribute pl x ap) [y] [] p) _ => decide (("append" : Str) = x) && (ap.endLine == p.line) && noSup pl && !isStar y && chkE nm N l sc pl && chkE nm N e sc y
    | _ => false)
  | .ext l e, st => (match st with
    | .Expr (.Call (.Attribute pl x ap) [y] [] p) _ => decide (("extend" : Str) = x) && (ap.endLine == p.line) && noSup pl && !isStar y && chkE nm N l sc pl && chkE nm N e sc y
    | _ => false)
  | .setix o i e, st => (match st with
    | .Assign [.Subscript po pi _] pe _ => !isLc pe && !isSlice pi && chkE nm N e sc pe && chkE nm N o sc po && chkE nm N i sc pi
    | _ => false)
  | .setfl o f e, st => (match st with
    | .Assign [.Attribute po x _] pe _ => !isLc pe && decide (nm.sym f = x) && chkE nm N e sc pe && chkE nm N o sc po
    | _ => false)
  | .rai c es, st => (match st with
    | .Raise (some (.Call (.Name x _) (y :: ys) [] _)) none _ => nm.isr c && decide (nm.sym c = x) && glB sc x && nb x && chkEs nm N es sc (y :: ys) && !(y :: ys).any isStar && ys.isEmpty
    | _ => false)
  | .tryr b c i f j, st => (match st with
    | .Try body [.ExceptHandler (some (.Name x _)) (some n) [.Return (some (.Compare (.Attribute (.Name n2 _) fx _) [.Eq] [.Name z _] _)) _] _] [] [] _ =>
      nm.isx c f && chkSs b body && nm.isr c && decide (nm.sym c = x) && glB sc x && nb x && decide (N[i]? = some n) && decide (n2 = n) && nb n && decide (sc.names.lookup n = some .local) && decide (nm.sym f = fx) && decide (N[j]? = some z) && nb z && visB sc z && decide (i ≠ j)
    | _ => false)
  | .unre, _ => true
def chkSs : S → List Stmt → Bool
  | .skip, l => (match l with
    | [] => true
    | _ => false)
  | .seq a b, l => (match a with
    | .wipe _ => chkSs b l
    | a' => match l with
      | st :: r => chkS a st && chkSs b r
      | [] => false)
  | .unre, _ => true
  | _, _ => false
end
end
end BR
end
section
set_option Elab.async false
set_option linter.all false
set_option maxRecDepth 100000
set_option maxHeartbeats 4000000
/-! BrSnd1: what the evaluator says of an expression holds of the model: the frame of the proof. -/
namespace BR
open PySem PySem.Spec PyProof.Rows L2

/-- the dict of an error -/
def ExR (W : Wd) (st : Sto) (m : Mp) (H : Hp) (d : Addr) (c : Nat) (vs : List PV) : Prop := ∃ fv : List (Str × V), H d = some (.xd fv) ∧ fv.map (·.1) = (W.xf c).map W.sym ∧ RepL W st m H (fv.map (·.2)) vs

def Sem (W : Wd) (Ex : XK) (st : Sto) (m : Mp) (H : Hp) {α β : Type} (r : Mo α) (Rp : Sto → Mp → Hp → β → α → Prop) (Q : β → Hp → Prop) : Prop := match r with
  | none => False
  | some (.ok a st') => ∀ b H' m', Le st m H st' m' H' → RSt W st' m' H' → Rp st' m' H' b a → Q b H'
  | some (.ex c vs st') => ∀ d H' m', Le st m H st' m' H' → RSt W st' m' H' → ExR W st' m' H' d c vs → Ex (.ref (W.ca c)) (some d) H'

section
variable {W : Wd} {Ex : XK} {st st' st'' : Sto} {m m' m'' : Mp} {H H' H'' : Hp} {α β γ δ : Type} {r : Mo α} {Rp : Sto → Mp → Hp → β → α → Prop} {Q Q' : β → Hp → Prop}
theorem Sem.mono (h : Sem W Ex st m H r Rp Q) (k : ∀ b H, Q b H → Q' b H) : Sem W Ex st m H r Rp Q' := by
  cases r with
  | none => exact h
  | some x =>
    cases x with
    | ok a st' => exact fun b H' m' l s p => k _ _ (h b H' m' l s p)
    | ex c vs st' => exact h
theorem Sem.le (h : Sem W Ex st m H r Rp Q) (l : Le st m H st' m' H') : Sem W Ex st' m' H' r Rp Q := by
  cases r with
  | none => exact h
  | some x =>
    cases x with
    | ok a st2 => exact fun b H2 m2 l2 s p => h b H2 m2 (l.trans l2) s p
    | ex c vs st2 => exact fun b H2 m2 l2 s p => h b H2 m2 (l.trans l2) s p
/-- the first half, and what it hands on -/
def Mid (W : Wd) (st : Sto) (m : Mp) (H : Hp) {α β : Type} (Rp : Sto → Mp → Hp → β → α → Prop) (k : α → Sto → Mp → Hp → β → Prop) : β → Hp → Prop :=
  fun b H1 => ∃ a st1 m1, Le st m H st1 m1 H1 ∧ RSt W st1 m1 H1 ∧ Rp st1 m1 H1 b a ∧ k a st1 m1 H1 b
theorem Sem.bnd {f : α → Sto → Mo γ} {Rq : Sto → Mp → Hp → δ → γ → Prop} {P : δ → Hp → Prop} (h : Sem W Ex st m H (bnd r f) Rq P) :
    Sem W Ex st m H r Rp (Mid W st m H Rp fun a st1 m1 H1 _ => Sem W Ex st1 m1 H1 (f a st1) Rq P) := by
  cases r with
  | none => exact h
  | some x =>
    cases x with
    | ok a st1 => exact fun b H1 m1 l s p => ⟨a, st1, m1, l, s, p, Sem.le (r := f a st1) h l⟩
    | ex c vs st1 => exact h
theorem Sem.lif {o : Option α} (h : Sem W Ex st m H (lif o st) Rp Q) : ∃ a, o = some a ∧ ∀ b H' m', Le st m H st m' H' → RSt W st m' H' → Rp st m' H' b a → Q b H' := by
  cases o with
  | none => exact False.elim h
  | some a => exact ⟨a, rfl, h⟩
/-- a test that comes out -/
theorem Sem.lif_bnd {o : Option α} {f : α → Sto → Mo γ} {Rq : Sto → Mp → Hp → δ → γ → Prop} {P : δ → Hp → Prop} (h : Sem W Ex st m H (BR.bnd (BR.lif o st) f) Rq P) : ∃ a, o = some a ∧ Sem W Ex st m H (f a st) Rq P := by
  cases o with
  | none => exact False.elim h
  | some a => exact ⟨a, rfl, h⟩
theorem Sem.ret {a : α} (h : Sem W Ex st m H (some (.ok a st)) Rp Q) (s : RSt W st m H) {b : β} (p : Rp st m H b a) : Q b H := h b H m Le.refl s p
end

/-! ### readings -/
abbrev RpV (W : Wd) : Sto → Mp → Hp → V → PV → Prop := fun st m H v x => Rep W st m H v x
abbrev RpL (W : Wd) : Sto → Mp → Hp → List V → List PV → Prop := fun st m H v x => RepL W st m H v x
abbrev RpB : Sto → Mp → Hp → Bool → Bool → Prop := fun _ _ _ a b => a = b
/-- the slots, the store and what comes -/
def tM (W : Wd) (Wx : WX) {α β : Type} (Rp : Sto → Mp → Hp → β → α → Prop) (f : Env → Sto → Mo α) : L2.St → Hp → (β → Hp → Prop) → Prop :=
  fun σ H Q => ∃ env st m, REnv W st m H σ env ∧ RSt W st m H ∧ Sem W (fun c d H => Wx c d σ H) st m H (f env st) Rp Q

section
variable {W : Wd} {Wx : WX} {X : Cx} {α β γ δ : Type} {Rp : Sto → Mp → Hp → β → α → Prop} {Rq : Sto → Mp → Hp → δ → γ → Prop} {f : Env → Sto → Mo α} {g : α → Env → Sto → Mo γ} {σ : L2.St} {H : Hp} {P : δ → Hp → Prop}
theorem PE.imp {e : Expr} {t t' : TE} (h : PE X e t) (k : ∀ σ H Q, t' σ H Q → t σ H Q) : PE X e t' := ⟨fun pins s σ H Q I q => h.run pins s σ H Q I (k σ H Q q)⟩
theorem PT.imp {e : Expr} {t t' : TT} (h : PT X e t) (k : ∀ σ H Q, t' σ H Q → t σ H Q) : PT X e t' := ⟨fun pins s σ H Q I q => h.run pins s σ H Q I (k σ H Q q)⟩
theorem PW.imp {e : Expr} {t t' : TT} (h : PW X e t) (k : ∀ σ H Q, t' σ H Q → t σ H Q) : PW X e t' := ⟨fun wh pins s σ H Q I q => h.run wh pins s σ H Q I (k σ H Q q)⟩
theorem PA.imp {e : List Expr} {t t' : TA} (h : PA X e t) (k : ∀ σ H Q, t' σ H Q → t σ H Q) : PA X e t' := ⟨fun pos pins s σ H Q I q => h.run pos pins s σ H Q I (k σ H Q q)⟩
/-- the first half of a computation is read, the rest told where it stands -/
theorem tM.bnd (h : tM W Wx Rq (fun env st => BR.bnd (f env st) fun a st => g a env st) σ H P) {Q : β → Hp → Prop}
    (k : ∀ b H1 a env st m, REnv W st m H1 σ env → RSt W st m H1 → Rp st m H1 b a → Sem W (fun c d H => Wx c d σ H) st m H1 (g a env st) Rq P → Q b H1) : tM W Wx Rp f σ H Q := by
  obtain ⟨env, st, m, re, rs, s⟩ := h
  exact ⟨env, st, m, re, rs, (Sem.bnd (Rp := Rp) s).mono fun b H1 ⟨a, st1, m1, l, rs1, p, s1⟩ => k b H1 a env st1 m1 (re.le l) rs1 p s1⟩
theorem tM.of {env : Env} {st : Sto} {m : Mp} (re : REnv W st m H σ env) (rs : RSt W st m H) {h : Env → Sto → Mo γ} (s : Sem W (fun c d H => Wx c d σ H) st m H (h env st) Rq P) : tM W Wx Rq h σ H P := ⟨env, st, m, re, rs, s⟩
end

/-! ### small facts of what lies where -/
section
variable {W : Wd} {st : Sto} {m : Mp} {H : Hp} {v : V} {x : PV} {xs ys : List PV} {n i j : Int}
theorem Rep.int_inv (r : Rep W st m H v (.int i)) : v = .int i := by cases r; rfl
theorem Rep.bl_inv {b : Bool} (r : Rep W st m H v (.bl b)) : v = .bl b := by cases r; rfl
theorem Rep.non_inv (r : Rep W st m H v .non) : v = .non := by cases r; rfl
theorem Rep.str_inv {s : Str} (r : Rep W st m H v (.str s)) : v = .str s ∧ s.length ≤ sizeLine := by cases r; exact ⟨rfl, by assumption⟩
theorem TupK.sq {K : PySem.W.Frag} {a : Addr} {vs : List V} (h : TupK K a vs) : SqT K H a vs := .inr h
/-- a tuple, as the layer reads it -/
theorem Rep.tup_inv (r : Rep W st m H v (.tup xs)) : ∃ a vs, v = .ref a ∧ SqT W.K H a vs ∧ RepL W st m H vs xs ∧ xs.length ≤ sizeLine := by
  cases r with
  | tup e n z q => exact ⟨_, _, rfl, SqT.of e, q, z⟩
  | tupK k z q => exact ⟨_, _, rfl, k.sq, q, z⟩
theorem Rep.lst_inv (r : Rep W st m H v (.lst xs)) : ∃ a vs, v = .ref a ∧ H a = some (.lst vs) ∧ ¬ Own st m a ∧ RepL W st m H vs xs ∧ xs.length ≤ sizeLine := by
  cases r with
  | lst e n z q => exact ⟨_, _, rfl, e, n, q, z⟩
/-- what is a row of things, as the layer reads it -/
theorem Rep.seq (r : Rep W st m H v x) (rs : RSt W st m H) (h : seqOf st x = some xs) : ∃ a vs, v = .ref a ∧ (SqL W.K H a vs ∨ SqT W.K H a vs) ∧ RepL W st m H vs xs ∧ xs.length ≤ sizeLine := by
  cases r with
  | tup e n z q => cases h; exact ⟨_, _, rfl, .inr (SqT.of e), q, z⟩
  | tupK k z q => cases h; exact ⟨_, _, rfl, .inr k.sq, q, z⟩
  | lst e n z q => cases h; exact ⟨_, _, rfl, .inl (SqL.of e), q, z⟩
  | arg e n z q => cases h; exact ⟨_, _, rfl, .inl (.inl (.inr ⟨_, e⟩)), q, z⟩
  | argK k z q => cases h; exact ⟨_, _, rfl, .inl (.inr k), q, z⟩
  | tpd e d n z q => cases h; exact ⟨_, _, rfl, .inr (.inl (.inr ⟨_, e⟩)), q, z⟩
  | @ref n hn =>
    simp only [seqOf] at h
    cases e : st[n]? with
    | none => rw [e] at h; cases h
    | some c =>
      rw [e] at h
      cases c with
      | lst ys =>
        cases h
        obtain ⟨vs, e1, z, q⟩ := rs.cell n _ e
        exact ⟨_, _, rfl, .inl (SqL.of e1), q, z⟩
      | _ => cases h
  | _ => cases h
theorem Rep.lstO (r : Rep W st m H v x) (rs : RSt W st m H) (h : lstOf st x = some xs) : ∃ a vs, v = .ref a ∧ SqL W.K H a vs ∧ RepL W st m H vs xs ∧ xs.length ≤ sizeLine := by
  cases r with
  | lst e n z q => cases h; exact ⟨_, _, rfl, SqL.of e, q, z⟩
  | arg e n z q => cases h; exact ⟨_, _, rfl, .inl (.inr ⟨_, e⟩), q, z⟩
  | argK k z q => cases h; exact ⟨_, _, rfl, .inr k, q, z⟩
  | @ref n hn =>
    simp only [lstOf] at h
    cases e : st[n]? with
    | none => rw [e] at h; cases h
    | some c =>
      rw [e] at h
      cases c with
      | lst ys =>
        cases h
        obtain ⟨vs, e1, z, q⟩ := rs.cell n _ e
        exact ⟨_, _, rfl, SqL.of e1, q, z⟩
      | _ => cases h
  | _ => cases h
/-- a dict, as the layer reads it -/
theorem Rep.dctI (r : Rep W st m H v x) (rs : RSt W st m H) {ks : List Key} {vs : List PV} (h : dctOf st x = some (ks, vs)) : ∃ a kvs, v = .ref a ∧ H a = some (.dK kvs) ∧ kvs.map (·.1) = ks ∧ RepL W st m H (kvs.map (·.2)) vs := by
  cases r with
  | dct e n q => cases h; exact ⟨_, _, rfl, e, rfl, q⟩
  | @ref n hn =>
    simp only [dctOf] at h
    cases e : st[n]? with
    | none => rw [e] at h; cases h
    | some c =>
      rw [e] at h
      cases c with
      | dct k2 v2 =>
        cases h
        obtain ⟨kvs, e1, z, q⟩ := rs.cell n _ e
        exact ⟨_, _, rfl, e1, z, q⟩
      | _ => cases h
  | _ => cases h
theorem Rep.objI (r : Rep W st m H v x) (rs : RSt W st m H) {c : Nat} {fs : List Nat} {vs : List PV} (h : objOf st x = some (c, fs, vs)) :
    ∃ a dx fv, v = .ref a ∧ H a = some (.ins (W.ca c) dx fv) ∧ fv.map (·.1) = fs.map W.sym ∧ RepL W st m H (fv.map (·.2)) vs := by
  cases r with
  | obj e n z q => cases h; exact ⟨_, _, _, rfl, e, z, q⟩
  | @ref n hn =>
    simp only [objOf] at h
    cases e : st[n]? with
    | none => rw [e] at h; cases h
    | some cc =>
      rw [e] at h
      cases cc with
      | obj k2 v2 u2 =>
        cases h
        obtain ⟨dx, fv, e1, z, q⟩ := rs.cell n _ e
        exact ⟨_, _, _, rfl, e1, z, q⟩
      | _ => cases h
  | _ => cases h
end
end BR
end
section
set_option Elab.async false
set_option linter.all false
set_option maxRecDepth 100000
set_option maxHeartbeats 4000000
/-! BrSnd2: the operations. -/
namespace BR
open PySem PySem.Spec PyProof.Rows L2

/-- what is wanted of an answer that leaves the store -/
def Ans (W : Wd) (st : Sto) (m : Mp) (H : Hp) (z : PV) (Q : VK) : Prop := ∀ b H' m', Le st m H st m' H' → RSt W st m' H' → Rep W st m' H' b z → Q b H'
section
variable {W : Wd} {st : Sto} {m : Mp} {H : Hp} {z : PV} {Q : VK} {v : V} {p : Addr} {vs : List V} {xs : List PV}
theorem Ans.here (k : Ans W st m H z Q) (rs : RSt W st m H) (r : Rep W st m H v z) : Q v H := k v H m Le.refl rs r
/-- a new tuple, list -/
theorem Ans.tup (k : Ans W st m H (.tup xs) Q) (rs : RSt W st m H) (hp : H p = none) (q : RepL W st m H vs xs) (z : xs.length ≤ sizeLine) : Q (.ref p) (upd H p (.tup vs)) :=
  k _ _ m (Le.new rs hp) (rs.new hp) (.tup upd_same (rs.nown hp) z (q.le (Le.new rs hp)))
theorem Ans.lst (k : Ans W st m H (.lst xs) Q) (rs : RSt W st m H) (hp : H p = none) (q : RepL W st m H vs xs) (z : xs.length ≤ sizeLine) : Q (.ref p) (upd H p (.lst vs)) :=
  k _ _ m (Le.new rs hp) (rs.new hp) (.lst upd_same (rs.nown hp) z (q.le (Le.new rs hp)))
theorem RepL.nil_iff (q : RepL W st m H vs xs) : vs = [] ↔ xs = [] := by
  constructor
  · rintro rfl; cases q; rfl
  · rintro rfl; cases q; rfl
end
def rBin (W : Wd) (op : Op2) : R2 := fun v u H Q => ∃ x y z st m, RSt W st m H ∧ Rep W st m H v x ∧ Rep W st m H u y ∧ bin2 op x y = some z ∧ Ans W st m H z Q

section
variable {X : Cx} {W : Wd}
theorem op_str_mul : OpR X (binaryOp .Mult) (fun x y H Q => ∃ (a : Str) (k : Int), x = .str a ∧ y = .int k ∧ a.length ≤ sizeLine ∧ ((k = 0 ∧ Q (.str ⟨#[]⟩) H) ∨ (k = 1 ∧ Q (.str a) H))) := by
  intro pins s σ H x y v u Q I rx ry h
  obtain ⟨a, k, rfl, rfl, hz, h⟩ := h
  obtain ⟨t, rfl⟩ := rx
  obtain ⟨t', rfl⟩ := ry
  rcases h with ⟨rfl, q⟩ | ⟨rfl, q⟩
  · exact PySem.P.mul_str_none (by decide) (by decide) ⟨.str _, H, I.tok _, ⟨_, rfl⟩, q⟩
  · refine PySem.P.mul_str (by decide) (fun _ h => ?_) (fun _ h => ?_) ?_
    · exact absurd h (by simp)
    · exact absurd h (by simp)
    · rw [if_neg (by decide), if_pos (by simp)]
      exact ⟨.str a, H, I, ⟨_, rfl⟩, q⟩

theorem op_bin (hK : X.K = W.K) : ∀ (op : Op2) (o : Operator), opB op o = true → OpR X (binaryOp o) (rBin W op) := by
  intro op o ho pins s σ H xv yv v u Q I rx ry h
  obtain ⟨x, y, z, st, m, rs, r1, r2, e, k⟩ := h
  cases op with
  | add =>
    cases o <;> first | (exfalso; revert ho; decide) | skip
    cases x <;> cases y <;> first | (exfalso; simp [bin2] at e; done) | skip
    · cases r1; cases r2
      simp only [bin2, Option.some.injEq] at e; subst e
      exact op_add pins s σ H _ _ v u Q I rx ry ⟨_, _, rfl, rfl, k.here rs (.int _)⟩
    · obtain ⟨rfl, z1⟩ := r1.str_inv
      obtain ⟨rfl, z2⟩ := r2.str_inv
      simp only [bin2] at e
      split at e
      · rename_i hl
        cases e
        refine op_add_str pins s σ H _ _ v u Q I rx ry ⟨_, _, rfl, rfl, hl, k.here rs (.str ?_)⟩
        show (_ ++ _ : Array Nat).size ≤ _
        rw [Array.size_append]; exact hl
      · cases e
    · obtain ⟨a, vs, rfl, h1, q1, z1⟩ := r1.tup_inv
      obtain ⟨b, ws, rfl, h2, q2, z2⟩ := r2.tup_inv
      simp only [bin2] at e
      split at e
      · rename_i hl
        cases e
        rw [← hK] at h1 h2
        refine op_catA pins s σ H _ _ v u Q I rx ry ⟨a, b, vs, ws, rfl, rfl, h1, h2, by rw [q1.length, q2.length]; exact hl, fun e0 => ?_, fun e0 e1 => ?_, fun e0 e1 p hp => ?_⟩
        · rw [q1.nil_iff.mp e0] at k; exact k.here rs r2
        · rw [q2.nil_iff.mp e1, List.append_nil] at k; exact k.here rs r1
        · exact k.tup rs hp (q1.append q2) (by rw [List.length_append]; exact hl)
      · cases e
    · obtain ⟨a, vs, rfl, h1, _, q1, z1⟩ := r1.lst_inv
      obtain ⟨b, ws, rfl, h2, _, q2, z2⟩ := r2.lst_inv
      simp only [bin2] at e
      split at e
      · rename_i hl
        cases e
        exact op_cat pins s σ H _ _ v u Q I rx ry ⟨a, b, vs, ws, rfl, rfl, h1, h2, by rw [q1.length, q2.length]; exact hl, fun p hp => k.lst rs hp (q1.append q2) (by rw [List.length_append]; exact hl)⟩
      · cases e
  | sub =>
    cases o <;> first | (exfalso; revert ho; decide) | skip
    cases x <;> cases y <;> first | (exfalso; simp [bin2] at e; done) | skip
    cases r1; cases r2
    simp only [bin2, Option.some.injEq] at e; subst e
    exact op_sub pins s σ H _ _ v u Q I rx ry ⟨_, _, rfl, rfl, k.here rs (.int _)⟩
  | mul =>
    cases o <;> first | (exfalso; revert ho; decide) | skip
    cases x <;> cases y <;> first | (exfalso; simp [bin2] at e; done) | skip
    · cases r1; cases r2
      simp only [bin2] at e
      split at e
      · rename_i hl
        cases e
        exact op_mulW pins s σ H _ _ v u Q I rx ry ⟨_, _, rfl, rfl, hl, k.here rs (.int _)⟩
      · cases e
    · obtain ⟨rfl, z1⟩ := r1.str_inv
      cases r2
      simp only [bin2] at e
      refine op_str_mul pins s σ H _ _ v u Q I rx ry ⟨_, _, rfl, rfl, z1, ?_⟩
      split at e
      · rename_i h0
        cases e
        exact .inl ⟨h0, k.here rs (.str (Nat.zero_le _))⟩
      · split at e
        · rename_i h1
          cases e
          exact .inr ⟨h1, k.here rs (.str z1)⟩
        · cases e
    · obtain ⟨a, vs, rfl, h1, _, q1, z1⟩ := r1.lst_inv
      cases r2
      simp only [bin2] at e
      split at e
      · rename_i hl
        cases e
        obtain ⟨l0, l1, l2⟩ := hl
        exact op_rep pins s σ H _ _ v u Q I rx ry ⟨a, _, vs, rfl, rfl, h1, by omega, by omega, by rw [q1.length]; exact l2, fun p hp => k.lst rs hp (q1.rep _) (by rw [← (q1.rep _).length, List.length_flatten, List.map_replicate, List.sum_replicate_nat, q1.length, Nat.mul_comm]; exact l2)⟩
      · cases e
  | fdiv =>
    cases o <;> first | (exfalso; revert ho; decide) | skip
    cases x <;> cases y <;> first | (exfalso; simp [bin2] at e; done) | skip
    cases r1; cases r2
    simp only [bin2] at e
    split at e
    · rename_i hl
      cases e
      exact op_fdivW pins s σ H _ _ v u Q I rx ry ⟨_, _, rfl, rfl, hl, k.here rs (.int _)⟩
    · cases e
  | mod =>
    cases o <;> first | (exfalso; revert ho; decide) | skip
    cases x <;> cases y <;> first | (exfalso; simp [bin2] at e; done) | skip
    cases r1; cases r2
    simp only [bin2] at e
    split at e
    · rename_i hl
      cases e
      exact op_mod pins s σ H _ _ v u Q I rx ry ⟨_, _, rfl, rfl, hl, k.here rs (.int _)⟩
    · cases e
  | pow =>
    cases o <;> first | (exfalso; revert ho; decide) | skip
    cases x <;> cases y <;> first | (exfalso; simp [bin2] at e; done) | skip
    cases r1; cases r2
    simp only [bin2] at e
    split at e
    · rename_i hl
      cases e
      exact op_pow pins s σ H _ _ v u Q I rx ry ⟨_, _, rfl, rfl, hl, k.here rs (.int _)⟩
    · cases e
end

/-! ### comparisons -/
mutual
theorem Rep.dp {W : Wd} {st : Sto} {m : Mp} {H : Hp} {v : V} {x : PV} (r : Rep W st m H v x) {d : PyData} (h : PV.dat x = some d) : Dp W.K H v d := match r with
  | .non => by cases h; exact .non
  | .bl b => by cases h; exact .bl b
  | .int i => by cases h; exact .int i
  | .str _ => by cases h; exact .str _
  | .tup e _ _ q => by
    simp only [PV.dat, Option.map_eq_some_iff] at h
    obtain ⟨ds, h, rfl⟩ := h
    exact .tup (SqT.of e) (q.dp h)
  | .tupK k _ q => by
    simp only [PV.dat, Option.map_eq_some_iff] at h
    obtain ⟨ds, h, rfl⟩ := h
    exact .tup k.sq (q.dp h)
  | .lst e _ _ q => by
    simp only [PV.dat, Option.map_eq_some_iff] at h
    obtain ⟨ds, h, rfl⟩ := h
    exact .lst (SqL.of e) (q.dp h)
  | .arg _ _ _ _ => by cases h
  | .argK _ _ _ => by cases h
  | .tpd e _ _ _ q => by
    simp only [PV.dat, Option.map_eq_some_iff] at h
    obtain ⟨ds, h, rfl⟩ := h
    exact .tup (.inl (.inr ⟨_, e⟩)) (q.dp h)
  | .dct _ _ _ => by cases h
  | .obj _ _ _ _ => by cases h
  | .fn _ => by cases h
  | .ref _ => by cases h
theorem RepL.dp {W : Wd} {st : Sto} {m : Mp} {H : Hp} {vs : List V} {xs : List PV} (r : RepL W st m H vs xs) {ds : List PyData} (h : PV.dats xs = some ds) : DpAll W.K H vs ds := match r with
  | .nil => by cases h; exact .nil
  | .cons a b => by
    simp only [PV.dats, Option.bind_eq_some_iff, Option.map_eq_some_iff] at h
    obtain ⟨d, h1, ds, h2, rfl⟩ := h
    exact .cons (a.dp h1) (b.dp h2)
end
section
variable {W : Wd} {st : Sto} {m : Mp} {H : Hp}
theorem RepL.ints : ∀ {vs : List V} {xs : List PV} {is : List Int}, RepL W st m H vs xs → intsOf xs = some is → vs = is.map V.int
  | _, _, _, .nil, h => by cases h; rfl
  | _, _, _, .cons r t, h => by
    cases r with
    | int i =>
      simp only [intsOf, Option.map_eq_some_iff] at h
      obtain ⟨l, h, rfl⟩ := h
      rw [t.ints h]; rfl
    | _ => cases h
theorem RepL.strs : ∀ {vs : List V} {xs : List PV} {is : List Str}, RepL W st m H vs xs → strsOf xs = some is → vs = is.map V.str ∧ ∀ s ∈ is, s.length ≤ sizeLine
  | _, _, _, .nil, h => by cases h; exact ⟨rfl, fun _ h => by cases h⟩
  | _, _, _, .cons r t, h => by
    cases r with
    | str z =>
      simp only [strsOf, Option.map_eq_some_iff] at h
      obtain ⟨l, h, rfl⟩ := h
      obtain ⟨e, q⟩ := t.strs h
      refine ⟨by rw [e]; rfl, fun s hs => ?_⟩
      rcases List.mem_cons.mp hs with rfl | hs
      · exact z
      · exact q s hs
    | _ => cases h
theorem RepL.bls : ∀ {vs : List V} {xs : List PV} {is : List Bool}, RepL W st m H vs xs → blsOf xs = some is → vs = is.map V.bl
  | _, _, _, .nil, h => by cases h; rfl
  | _, _, _, .cons r t, h => by
    cases r with
    | bl i =>
      simp only [blsOf, Option.map_eq_some_iff] at h
      obtain ⟨l, h, rfl⟩ := h
      rw [t.bls h]; rfl
    | _ => cases h
theorem Rep.flat {v : V} {x : PV} (r : Rep W st m H v x) (h : flatP x = true) : flatV v = true := by
  cases r <;> first | rfl | cases h
theorem Rep.eqf {v u : V} {x y : PV} (r : Rep W st m H v x) (q : Rep W st m H u y) (h1 : flatP x = true) (h2 : flatP y = true) : eqV v u = eqF x y := by
  cases r <;> first | (cases h1; done) | (cases q <;> first | rfl | (cases h2; done))
theorem RepL.flat : ∀ {vs : List V} {xs : List PV}, RepL W st m H vs xs → xs.all flatP = true → vs.all flatV = true
  | _, _, .nil, _ => rfl
  | _, _, .cons r t, h => by
    rw [List.all_cons, Bool.and_eq_true] at h ⊢
    exact ⟨r.flat h.1, t.flat h.2⟩
theorem RepL.inv {u : V} {y : PV} (q : Rep W st m H u y) (h2 : flatP y = true) : ∀ {vs : List V} {xs : List PV}, RepL W st m H vs xs → xs.all flatP = true → inV u vs = xs.any fun x => eqF x y
  | _, _, .nil, _ => rfl
  | _, _, .cons r t, h => by
    rw [List.all_cons, Bool.and_eq_true] at h
    show (_ :: _ : List V).any _ = _
    rw [List.any_cons, List.any_cons, r.eqf q h.1 h2]
    exact congrArg _ (t.inv q h2 h.2)
theorem keyOf_rep {v : V} {x : PV} {k : Key} (r : Rep W st m H v x) (h : keyOf x = some k) : v = kV k := by
  cases r <;> first | (cases h; rfl) | cases h
theorem valV_isSome (k : Key) : ∀ kvs : List (Key × V), (valV kvs k).isSome = (kvs.map (·.1)).any fun j => decide (j = k)
  | [] => rfl
  | p :: r => by
    rw [List.map_cons, List.any_cons, ← valV_isSome k r]
    by_cases e : p.1 = k
    · rw [valV_pos e]; simp [e]
    · rw [valV_neg e]; simp [e]
end
def rCmp (W : Wd) (op : Cp) : R2 := fun v u H Q => ∃ x y b st m, RSt W st m H ∧ Rep W st m H v x ∧ Rep W st m H u y ∧ (isNoneCp op = true → y = .non) ∧ cmpo st op x y = some b ∧ Q (.bl b) H
theorem op_dict_in {X : Cx} (hu : X.A.units + 1 < cLine) : OpR X (compareOp .In) (fun y x H Q => ∃ a o, x = .ref a ∧ DGet H a y o ∧ Q (.bl o.isSome) H) := by
  rintro pins s σ H y x u v Q I ry rx ⟨a, o, rfl, g, q⟩
  obtain rfl : v = Value.ref a := rx
  exact d_in hu I g ry fun s3 I3 => ⟨.bl o.isSome, H, I3, rfl, q⟩
theorem op_dict_notin {X : Cx} (hu : X.A.units + 1 < cLine) : OpR X (compareOp .NotIn) (fun y x H Q => ∃ a o, x = .ref a ∧ DGet H a y o ∧ Q (.bl (!o.isSome)) H) := by
  rintro pins s σ H y x u v Q I ry rx ⟨a, o, rfl, g, q⟩
  obtain rfl : v = Value.ref a := rx
  exact d_notIn hu I g ry fun s3 I3 => ⟨.bl (!o.isSome), H, I3, rfl, q⟩
theorem one_sign {z : Str} (h : z.length = 1) : z = ⟨#[z.cps.getD 0 0]⟩ := by
  obtain ⟨c⟩ := z
  have h' : c.size = 1 := h
  congr 1
  refine Array.ext (by simp [h']) fun i h1 h2 => ?_
  have : i = 0 := by omega
  subst this
  simp [Array.getD, h']
/-- x in c -/
theorem in_cases {X : Cx} {W : Wd} (hK : X.K = W.K) {st : Sto} {m : Mp} {H : Hp} {v u : V} {x y : PV} {b : Bool} (rs : RSt W st m H) (r1 : Rep W st m H v x) (r2 : Rep W st m H u y) (e : inP st x y = some b) :
    (∃ (c : Nat) (z : Str), v = .str ⟨#[c]⟩ ∧ u = .str z ∧ b = decide (c ∈ z.cps.toList)) ∨ (∃ p xs, u = .ref p ∧ (SqL X.K H p xs ∨ SqT X.K H p xs) ∧ flatV v = true ∧ xs.all flatV = true ∧ b = inV v xs) ∨
    ∃ a o, u = .ref a ∧ DGet H a v o ∧ b = o.isSome := by
  have seqc : ∀ {xs : List PV}, seqOf st y = some xs → (if (flatP x && xs.all flatP) = true then some (xs.any fun z => eqF z x) else none) = some b →
      (∃ p xs, u = .ref p ∧ (SqL X.K H p xs ∨ SqT X.K H p xs) ∧ flatV v = true ∧ xs.all flatV = true ∧ b = inV v xs) := fun {xs} h1 h2 => by
    split at h2
    · rename_i hf
      rw [Bool.and_eq_true] at hf
      obtain ⟨a, vs, rfl, sq, q, _⟩ := r2.seq rs h1
      rw [← hK] at sq
      refine ⟨a, vs, rfl, sq, r1.flat hf.1, q.flat hf.2, ?_⟩
      rw [q.inv r1 hf.1 hf.2]
      exact (Option.some.inj h2).symm
    · cases h2
  have dctc : ∀ {ks : List Key} {us : List PV}, dctOf st y = some (ks, us) → (keyOf x).map (fun k => ks.any fun j => decide (j = k)) = some b → ∃ a o, u = .ref a ∧ DGet H a v o ∧ b = o.isSome := fun {ks us} h1 h2 => by
    rw [Option.map_eq_some_iff] at h2
    obtain ⟨k, hk, rfl⟩ := h2
    obtain ⟨a, kvs, rfl, ha, rfl, q⟩ := r2.dctI rs h1
    rw [keyOf_rep r1 hk]
    exact ⟨a, _, rfl, .k ha, (valV_isSome k kvs).symm⟩
  have seqn : ∀ {h : seqOf st y = none}, (match dctOf st y with | some (ks, _) => (keyOf x).map fun k => ks.any fun j => decide (j = k) | none => none) = some b → ∃ a o, u = .ref a ∧ DGet H a v o ∧ b = o.isSome := fun {_} h2 => by
    cases hd : dctOf st y with
    | none => rw [hd] at h2; cases h2
    | some p =>
      obtain ⟨ks, us⟩ := p
      rw [hd] at h2
      exact dctc hd h2
  by_cases hs : ∃ z, y = .str z
  · obtain ⟨z, rfl⟩ := hs
    obtain ⟨rfl, _⟩ := r2.str_inv
    cases x <;> first | (simp [inP] at e; done) | skip
    rename_i w
    obtain ⟨rfl, _⟩ := r1.str_inv
    simp only [inP] at e
    split at e
    · rename_i hl
      cases e
      exact .inl ⟨w.cps.getD 0 0, z, by rw [← one_sign hl], rfl, rfl⟩
    · cases e
  · have e' : (match seqOf st y with
        | some xs => if (flatP x && xs.all flatP) = true then some (xs.any fun z => eqF z x) else none
        | none => match dctOf st y with
          | some (ks, _) => (keyOf x).map fun k => ks.any fun j => decide (j = k)
          | none => none) = some b := by
      cases y <;> first | exact e | exact absurd ⟨_, rfl⟩ hs
    cases h1 : seqOf st y with
    | some xs => rw [h1] at e'; exact .inr (.inl (seqc h1 e'))
    | none => rw [h1] at e'; exact .inr (.inr (seqn (h := h1) e'))
theorem op_cmp {X : Cx} {W : Wd} (hK : X.K = W.K) (hu : X.A.units + 64 < cLine) : ∀ (op : Cp) (o : CmpOp), cpB op o = true → OpR X (compareOp o) (rCmp W op) := by
  intro op o ho pins s σ H xv yv v u Q I rx ry h
  obtain ⟨x, y, b, st, m, rs, r1, r2, hn, e, q⟩ := h
  cases op with
  | lt =>
    cases o <;> first | (exfalso; revert ho; decide) | skip
    cases x <;> cases y <;> first | (exfalso; simp [cmpo] at e; done) | skip
    · cases r1; cases r2
      simp only [cmpo, Option.some.injEq] at e; subst e
      exact op_lt pins s σ H _ _ v u Q I rx ry ⟨_, _, rfl, rfl, q⟩
    · obtain ⟨a, vs, rfl, h1, q1, z1⟩ := r1.tup_inv
      obtain ⟨c, ws, rfl, h2, q2, z2⟩ := r2.tup_inv
      simp only [cmpo, Option.bind_eq_some_iff, Option.map_eq_some_iff] at e
      obtain ⟨is, e1, js, e2, rfl⟩ := e
      rw [q1.ints e1, ← hK] at h1
      rw [q2.ints e2, ← hK] at h2
      exact op_ltT (by omega) pins s σ H _ _ v u Q I rx ry ⟨a, c, is, js, rfl, rfl, h1, h2, q⟩
  | le =>
    cases o <;> first | (exfalso; revert ho; decide) | skip
    cases x <;> cases y <;> first | (exfalso; simp [cmpo] at e; done) | skip
    cases r1; cases r2
    simp only [cmpo, Option.some.injEq] at e; subst e
    exact op_le pins s σ H _ _ v u Q I rx ry ⟨_, _, rfl, rfl, q⟩
  | gt =>
    cases o <;> first | (exfalso; revert ho; decide) | skip
    cases x <;> cases y <;> first | (exfalso; simp [cmpo] at e; done) | skip
    cases r1; cases r2
    simp only [cmpo, Option.some.injEq] at e; subst e
    exact op_gt pins s σ H _ _ v u Q I rx ry ⟨_, _, rfl, rfl, q⟩
  | ge =>
    cases o <;> first | (exfalso; revert ho; decide) | skip
    cases x <;> cases y <;> first | (exfalso; simp [cmpo] at e; done) | skip
    cases r1; cases r2
    simp only [cmpo, Option.some.injEq] at e; subst e
    exact op_ge pins s σ H _ _ v u Q I rx ry ⟨_, _, rfl, rfl, q⟩
  | eq =>
    cases o <;> first | (exfalso; revert ho; decide) | skip
    have e' : peq x y = some b := by cases x <;> cases y <;> exact e
    unfold peq at e'
    simp only [Option.bind_eq_some_iff] at e'
    obtain ⟨d, e1, d2, e2, e3⟩ := e'
    split at e3
    · rename_i hs
      rw [Bool.and_eq_true] at hs
      cases e3
      refine op_eqD hu pins s σ H _ _ v u Q I rx ry ⟨d, d2, ?_, ?_, hs.1, hs.2, q⟩
      · rw [hK]; exact r1.dp e1
      · rw [hK]; exact r2.dp e2
    · cases e3
  | ne =>
    cases o <;> first | (exfalso; revert ho; decide) | skip
    have e0 : (peq x y).map (!·) = some b := by cases x <;> cases y <;> exact e
    rw [Option.map_eq_some_iff] at e0
    obtain ⟨c, e', rfl⟩ := e0
    unfold peq at e'
    simp only [Option.bind_eq_some_iff] at e'
    obtain ⟨d, e1, d2, e2, e3⟩ := e'
    split at e3
    · rename_i hs
      rw [Bool.and_eq_true] at hs
      cases e3
      refine op_neD hu pins s σ H _ _ v u Q I rx ry ⟨d, d2, ?_, ?_, hs.1, hs.2, q⟩
      · rw [hK]; exact r1.dp e1
      · rw [hK]; exact r2.dp e2
    · cases e3
  | isN =>
    cases o <;> first | (exfalso; revert ho; decide) | skip
    have hy := hn rfl
    subst hy
    cases r2
    have eb : decide (xv = V.non) = b := by
      cases r1 <;> (simp only [cmpo, Option.some.injEq] at e; subst e; simp)
    exact op_isN pins s σ H _ _ v u Q I rx ry ⟨rfl, by rw [eb]; exact q⟩
  | notN =>
    cases o <;> first | (exfalso; revert ho; decide) | skip
    have hy := hn rfl
    subst hy
    cases r2
    have eb : (!decide (xv = V.non)) = b := by
      cases r1 <;> (simp only [cmpo, Option.some.injEq] at e; subst e; simp)
    exact op_notN pins s σ H _ _ v u Q I rx ry ⟨rfl, by rw [eb]; exact q⟩
  | inn =>
    cases o <;> first | (exfalso; revert ho; decide) | skip
    have e' : inP st x y = some b := by cases x <;> cases y <;> exact e
    rcases in_cases hK rs r1 r2 e' with ⟨c, z, rfl, rfl, rfl⟩ | ⟨p, xs, rfl, sq, f1, f2, rfl⟩ | ⟨a, o, rfl, g, rfl⟩
    · exact op_in_sign pins s σ H _ _ v u Q I rx ry ⟨c, z, rfl, rfl, q⟩
    · exact op_in_seq pins s σ H _ _ v u Q I rx ry ⟨p, xs, rfl, sq, f1, f2, q⟩
    · exact op_dict_in (by omega) pins s σ H _ _ v u Q I rx ry ⟨a, o, rfl, g, q⟩
  | notin =>
    cases o <;> first | (exfalso; revert ho; decide) | skip
    have e0 : (inP st x y).map (!·) = some b := by cases x <;> cases y <;> exact e
    rw [Option.map_eq_some_iff] at e0
    obtain ⟨c, e', rfl⟩ := e0
    rcases in_cases hK rs r1 r2 e' with ⟨c, z, rfl, rfl, rfl⟩ | ⟨p, xs, rfl, sq, f1, f2, rfl⟩ | ⟨a, o, rfl, g, rfl⟩
    · exact op_notIn_sign pins s σ H _ _ v u Q I rx ry ⟨c, z, rfl, rfl, q⟩
    · exact op_notIn_seq pins s σ H _ _ v u Q I rx ry ⟨p, xs, rfl, sq, f1, f2, q⟩
    · exact op_dict_notin (by omega) pins s σ H _ _ v u Q I rx ry ⟨a, o, rfl, g, q⟩
end BR
end
section
set_option Elab.async false
set_option linter.all false
set_option maxRecDepth 100000
set_option maxHeartbeats 4000000
/-! BrSnd3: truth, subscripts, slices, builtins. -/
namespace BR
open PySem PySem.Spec PyProof.Rows L2

section
variable {W : Wd} {st : Sto} {m : Mp} {H : Hp} {v : V} {x : PV} {b : Bool} {vs : List V} {xs : List PV}
theorem RepL.empty (q : RepL W st m H vs xs) : vs.isEmpty = xs.isEmpty := by cases q <;> rfl
theorem map_empty {α β : Type} (f : α → β) (l : List α) : (l.map f).isEmpty = l.isEmpty := by cases l <;> rfl
theorem Rep.tru (r : Rep W st m H v x) (rs : RSt W st m H) (h : tru st x = some b) : TruV W.K v H b := by
  cases r with
  | non => cases h; rfl
  | bl c => cases h; rfl
  | int i => cases h; rfl
  | str z => cases h; exact ⟨z, rfl⟩
  | tup e n z q => cases h; exact .inr (.inl ⟨_, SqT.of e, by rw [q.empty]⟩)
  | tupK k z q => cases h; exact .inr (.inl ⟨_, k.sq, by rw [q.empty]⟩)
  | lst e n z q => cases h; exact .inl ⟨_, SqL.of e, by rw [q.empty]⟩
  | arg e n z q => cases h; exact .inl ⟨_, .inl (.inr ⟨_, e⟩), by rw [q.empty]⟩
  | argK k z q => cases h; exact .inl ⟨_, .inr k, by rw [q.empty]⟩
  | tpd e d n z q => cases h; exact .inr (.inl ⟨_, .inl (.inr ⟨_, e⟩), by rw [q.empty]⟩)
  | dct e n q => cases h; exact .inr (.inr ⟨_, e, by rw [map_empty]⟩)
  | obj e n z q => cases h
  | fn f => cases h
  | @ref n hn =>
    simp only [BR.tru] at h
    cases e : st[n]? with
    | none => rw [e] at h; cases h
    | some c =>
      rw [e] at h
      cases c with
      | lst ys =>
        cases h
        obtain ⟨vs, e1, z, q⟩ := rs.cell n _ e
        exact .inl ⟨_, SqL.of e1, by rw [q.empty]⟩
      | dct ks vs =>
        cases h
        obtain ⟨kvs, e1, rfl, q⟩ := rs.cell n _ e
        exact .inr (.inr ⟨_, e1, by rw [map_empty]⟩)
      | dead => cases h
      | obj a b c => cases h
end

/-! ### subscripts -/
def rIxP (W : Wd) : R2 := fun v u H Q => ∃ x y z st m, RSt W st m H ∧ Rep W st m H v x ∧ Rep W st m H u y ∧ idxP st x y = some z ∧ Ans W st m H z Q
theorem ix_dict {X : Cx} (hu : X.A.units + 1 < cLine) : IxR X (fun x y H Q => ∃ a v, x = .ref a ∧ DGet H a y (some v) ∧ Q v H) := by
  intro value slice pins s σ H x y v u Q I rx ry h hs
  obtain ⟨a, w, rfl, g, q⟩ := h
  obtain rfl : v = Value.ref a := rx
  exact tail_any (dict_typeIs I g) PySem.F.slot_dict_getitem.lookup (d_getItem hu I g ry fun w' s3 I3 rw' => ⟨w, H, I3, rw', q⟩) hs
theorem lookP_rep {W : Wd} {st : Sto} {m : Mp} {H : Hp} {z : PV} {k : Key} : ∀ {kvs : List (Key × V)} {xs : List PV}, RepL W st m H (kvs.map (·.2)) xs → lookP k (kvs.map (·.1)) xs = some z → ∃ w, valV kvs k = some w ∧ Rep W st m H w z
  | [], _, _, h => by simp [lookP] at h
  | p :: kvs, [], q, h => by simp [lookP] at h
  | p :: kvs, x :: xs, q, h => by
    cases q with
    | cons r t =>
      simp only [List.map_cons, lookP] at h
      by_cases e : p.1 = k
      · rw [if_pos e] at h
        cases h
        exact ⟨p.2, valV_pos e, r⟩
      · rw [if_neg e] at h
        obtain ⟨w, h1, h2⟩ := lookP_rep t h
        exact ⟨w, by rw [valV_neg e]; exact h1, h2⟩
theorem ix_P {X : Cx} {W : Wd} (hK : X.K = W.K) (hu : X.A.units + 64 < cLine) : IxR X (rIxP W) := by
  intro value slice pins s σ H xv yv v u Q I rx ry h hs
  obtain ⟨x, y, z, st, m, rs, r1, r2, e, k⟩ := h
  have gen : idxO st x y = some z → wpAny (model X.prog X.w) X.A (subscriptTail value slice v u) (EP X pins σ Q) X.xe s := fun e' => by
    unfold idxO at e'
    cases h1 : seqOf st x with
    | some xs =>
      rw [h1] at e'
      cases y <;> first | (exfalso; simp [idxL] at e'; done) | skip
      rename_i i
      cases r2
      obtain ⟨a, vs, rfl, sq, q, _⟩ := r1.seq rs h1
      simp only [idxL, atP, Option.bind_eq_some_iff] at e'
      obtain ⟨j, e1, e2⟩ := e'
      obtain ⟨w, e3, r3⟩ := q.get e2
      have ea : atI vs i = some w := by unfold atI; rw [q.length, e1]; exact e3
      rw [← hK] at sq
      rcases sq with sq | sq
      · exact ix_seq value slice pins s σ H _ _ v u Q I rx ry (.inl ⟨a, vs, i, w, rfl, rfl, sq, ea, k.here rs r3⟩) hs
      · exact ix_seq value slice pins s σ H _ _ v u Q I rx ry (.inr (.inl ⟨a, vs, i, w, rfl, rfl, sq, ea, k.here rs r3⟩)) hs
    | none =>
      rw [h1] at e'
      simp only [Option.bind_eq_some_iff] at e'
      obtain ⟨⟨ks, us⟩, e1, kk, e2, e3⟩ := e'
      obtain ⟨a, kvs, rfl, ha, rfl, q⟩ := r1.dctI rs e1
      obtain rfl := keyOf_rep r2 e2
      obtain ⟨w, e4, r3⟩ := lookP_rep q e3
      exact ix_dict (by omega) value slice pins s σ H _ _ v u Q I rx ry ⟨a, w, rfl, by rw [← e4]; exact .k ha, k.here rs r3⟩ hs
  cases x with
  | str w =>
    obtain ⟨rfl, hz⟩ := r1.str_inv
    simp only [idxP] at e
    cases y <;> first | (exfalso; simp [idxS] at e; done) | skip
    rename_i i
    cases r2
    simp only [idxS, Option.bind_eq_some_iff, Option.map_eq_some_iff] at e
    obtain ⟨j, e1, c, e2, rfl⟩ := e
    refine ix_seq value slice pins s σ H _ _ v u Q I rx ry (.inr (.inr ⟨w, i, c, rfl, rfl, hz, ?_, k.here rs (.str ?_)⟩)) hs
    · unfold atI; rw [e1]; exact e2
    · show 1 ≤ _
      rw [sizeLine_eq]; decide
  | _ => exact gen e
/-! ### slices -/
def rSlP (W : Wd) : V → Option Int → Option Int → Hp → VK → Prop := fun v lo hi H Q => ∃ x z st m, RSt W st m H ∧ Rep W st m H v x ∧ sliP st x lo hi = some z ∧ Ans W st m H z Q
theorem cutP_length (xs : List PV) (lo hi : Option Int) : (cutP xs lo hi).length ≤ xs.length := by
  unfold cutP
  rw [List.length_take, List.length_drop]
  omega
theorem cutV_all (vs : List V) (lo hi : Option Int) (h : HT.sIx vs.length 0 lo = 0 ∧ HT.sIx vs.length vs.length hi = vs.length) : cutV vs lo hi = vs := by
  unfold cutV
  rw [h.1, h.2]; simp
theorem cutP_all (vs : List PV) (lo hi : Option Int) (h : HT.sIx vs.length 0 lo = 0 ∧ HT.sIx vs.length vs.length hi = vs.length) : cutP vs lo hi = vs := by
  unfold cutP
  rw [h.1, h.2]; simp
theorem sl_P {X : Cx} {W : Wd} (hK : X.K = W.K) : SlR X (rSlP W) := by
  intro pins s σ H xv v vl vu lo hi sl Q I rx hs pl pu h
  obtain ⟨x, z, st, m, rs, r1, e, k⟩ := h
  have lc : ∀ {xs : List PV}, lstOf st x = some xs → z = .lst (cutP xs lo hi) → ∃ T id, typeLookup (.type T) "__getitem__" = pure (some (.builtin id)) ∧ s.TypeIs v T ∧ wpAny (model X.prog X.w) X.A (getItem v (.ref sl)) (EP X pins σ Q) X.xe s := fun {xs} h1 h2 => by
    subst h2
    obtain ⟨a, vs, rfl, sq, q, hz⟩ := r1.lstO rs h1
    rw [← hK] at sq
    exact sl_list pins s σ H _ v vl vu lo hi sl Q I rx hs pl pu ⟨a, vs, rfl, sq, fun p hp => k.lst rs hp (q.cut lo hi) (Nat.le_trans (cutP_length _ _ _) hz)⟩
  cases x with
  | str w =>
    obtain ⟨rfl, hz⟩ := r1.str_inv
    cases e
    exact sl_str pins s σ H _ v vl vu lo hi sl Q I rx hs pl pu ⟨w, rfl, hz, k.here rs (.str (Nat.le_trans (cutS_length w lo hi) hz))⟩
  | tup xs =>
    obtain ⟨a, vs, rfl, h1, q1, z1⟩ := r1.tup_inv
    cases e
    rw [← hK] at h1
    refine sl_tupA pins s σ H _ v vl vu lo hi sl Q I rx hs pl pu ⟨a, vs, rfl, h1, fun hw => ?_, fun hw p hp => k.tup rs hp (q1.cut lo hi) (Nat.le_trans (cutP_length _ _ _) z1)⟩
    rw [cutP_all xs lo hi (by rw [← q1.length]; exact hw)] at k
    exact k.here rs r1
  | _ =>
    simp only [sliP, Option.map_eq_some_iff] at e
    obtain ⟨xs, h1, h2⟩ := e
    exact lc h1 h2.symm

/-! ### builtins -/
def rBlt (W : Wd) (b : Blt) : List V → Hp → VK → Prop := fun vs H Q => ∃ xs z st m, RSt W st m H ∧ RepL W st m H vs xs ∧ bltf st b xs = some z ∧ Ans W st m H z Q
theorem callImp {X : Cx} {f : Value} {r r' : List V → Hp → VK → Prop} (h : CallR X f r) (k : ∀ vs H Q, r' vs H Q → r vs H Q) : CallR X f r' := fun pins s σ H xs us Q I rs q => h pins s σ H xs us Q I rs (k _ _ _ q)
section
variable {X : Cx} {W : Wd} {st : Sto} {m : Mp} {H : Hp}
theorem RepL.one {v : List V} {x : PV} (q : RepL W st m H v [x]) : ∃ u, v = [u] ∧ Rep W st m H u x := by
  cases q with
  | cons r t => cases t; exact ⟨_, rfl, r⟩
theorem RepL.two {v : List V} {x y : PV} (q : RepL W st m H v [x, y]) : ∃ u w, v = [u, w] ∧ Rep W st m H u x ∧ Rep W st m H w y := by
  cases q with
  | cons r t => cases t with | cons r2 t => cases t; exact ⟨_, _, rfl, r, r2⟩
theorem kvs_keys {W : Wd} {st : Sto} {m : Mp} {H : Hp} : ∀ (kvs : List (Key × V)), (∀ kv ∈ kvs, ∀ s, kv.1 = .inr s → s.length ≤ sizeLine) → RepL W st m H (kvs.map fun kv => kV kv.1) ((kvs.map (·.1)).map keyP)
  | [], _ => .nil
  | kv :: r, h => by
    refine .cons ?_ (kvs_keys r fun k hk => h k (List.mem_cons_of_mem _ hk))
    show Rep W st m H (kV kv.1) (keyP kv.1)
    cases e : kv.1 with
    | inl i => exact .int i
    | inr s => exact .str (h kv (List.mem_cons_self ..) s e)

theorem b_abs : CallR X (.builtin "abs") (rBlt W .abs) := callImp (call_abs) fun vs H Q h => by
  obtain ⟨xs, z, st, m, rs, q, e, k⟩ := h
  simp only [bltf] at e
  unfold absP at e
  split at e
  · cases e
    obtain ⟨u, rfl, r⟩ := q.one
    cases r
    exact ⟨_, rfl, k.here rs (.int _)⟩
  · cases e
theorem b_min (hc : X.calm = true) : CallR X (.builtin "min") (rBlt W .min) := callImp (call_min2 hc) fun vs H Q h => by
  obtain ⟨xs, z, st, m, rs, q, e, k⟩ := h
  simp only [bltf] at e
  unfold minP at e
  split at e
  · cases e
    obtain ⟨u, w, rfl, r, r2⟩ := q.two
    cases r; cases r2
    exact ⟨_, _, rfl, k.here rs (.int _)⟩
  · cases e
theorem b_max (hc : X.calm = true) : CallR X (.builtin "max") (rBlt W .max) := callImp (call_max2 hc) fun vs H Q h => by
  obtain ⟨xs, z, st, m, rs, q, e, k⟩ := h
  simp only [bltf] at e
  unfold maxP at e
  split at e
  · cases e
    obtain ⟨u, w, rfl, r, r2⟩ := q.two
    cases r; cases r2
    exact ⟨_, _, rfl, k.here rs (.int _)⟩
  · cases e
theorem b_gcd : CallR X (.builtin "math.gcd") (rBlt W .gcd) := callImp (cr_gcd) fun vs H Q h => by
  obtain ⟨xs, z, st, m, rs, q, e, k⟩ := h
  simp only [bltf] at e
  unfold gcdP at e
  split at e
  · cases e
    obtain ⟨u, w, rfl, r, r2⟩ := q.two
    cases r; cases r2
    exact ⟨_, _, rfl, k.here rs (.int _)⟩
  · cases e
theorem b_int : CallR X (.type "int") (rBlt W .int) := callImp (call_int1) fun vs H Q h => by
  obtain ⟨xs, z, st, m, rs, q, e, k⟩ := h
  simp only [bltf] at e
  unfold intP at e
  split at e
  · cases e
    obtain ⟨u, rfl, r⟩ := q.one
    cases r
    exact .inl ⟨_, rfl, k.here rs (.int _)⟩
  · cases e
theorem lenP_cases {st : Sto} {xs : List PV} {z : PV} (h : lenP st xs = some z) : (∃ s, xs = [.str s] ∧ z = .int s.length) ∨ ∃ x, xs = [x] ∧ lenO st x = some z := by
  unfold lenP at h
  split at h <;> first | (cases h; done) | exact .inr ⟨_, rfl, h⟩ | skip
  exact .inl ⟨_, rfl, (Option.some.inj h).symm⟩
theorem b_len (hK : X.K = W.K) : CallR X (.builtin "len") (rBlt W .len) := callImp (CallR.or call_len call_lenD) fun vs H Q h => by
  obtain ⟨xs, z, st, m, rs, q, e, k⟩ := h
  rcases lenP_cases e with ⟨w, rfl, rfl⟩ | ⟨x, rfl, e'⟩
  · obtain ⟨u, rfl, r⟩ := q.one
    obtain ⟨rfl, hz⟩ := r.str_inv
    exact .inl ⟨_, _, rfl, ⟨hz, rfl⟩, k.here rs (.int _)⟩
  · obtain ⟨u, rfl, r⟩ := q.one
    unfold lenO at e'
    cases h1 : seqOf st x with
    | some xs =>
      rw [h1] at e'
      cases e'
      obtain ⟨a, vs, rfl, sq, q, _⟩ := r.seq rs h1
      refine .inl ⟨_, vs.length, rfl, ?_, by rw [q.length]; exact k.here rs (.int _)⟩
      rw [hK]
      rcases sq with sq | sq
      · exact .inl ⟨_, sq, rfl⟩
      · exact .inr ⟨_, sq, rfl⟩
    | none =>
      rw [h1] at e'
      simp only [Option.map_eq_some_iff] at e'
      obtain ⟨⟨ks, us⟩, e1, rfl⟩ := e'
      obtain ⟨a, kvs, rfl, ha, rfl, q⟩ := r.dctI rs e1
      rw [show ((kvs.map (·.1)).length : Int) = kvs.length by rw [List.length_map]] at k
      exact .inr ⟨a, kvs, rfl, ha, k.here rs (.int _)⟩
theorem b_all (hK : X.K = W.K) (hc : X.calm = true) : CallR X (.builtin "all") (rBlt W .all) := callImp (cr_all hc) fun vs H Q h => by
  obtain ⟨xs, z, st, m, rs, q, e, k⟩ := h
  simp only [bltf] at e
  unfold allP at e
  split at e
  · obtain ⟨u, rfl, r⟩ := q.one
    simp only [Option.bind_eq_some_iff, Option.map_eq_some_iff] at e
    obtain ⟨ys, h1, bs, h2, rfl⟩ := e
    obtain ⟨a, vs, rfl, sq, q, _⟩ := r.lstO rs h1
    rw [q.bls h2, ← hK] at sq
    exact ⟨a, bs, rfl, sq, k.here rs (.bl _)⟩
  · cases e
theorem b_any (hK : X.K = W.K) (hc : X.calm = true) : CallR X (.builtin "any") (rBlt W .any) := callImp (cr_any hc) fun vs H Q h => by
  obtain ⟨xs, z, st, m, rs, q, e, k⟩ := h
  simp only [bltf] at e
  unfold anyP at e
  split at e
  · obtain ⟨u, rfl, r⟩ := q.one
    simp only [Option.bind_eq_some_iff, Option.map_eq_some_iff] at e
    obtain ⟨ys, h1, bs, h2, rfl⟩ := e
    obtain ⟨a, vs, rfl, sq, q, _⟩ := r.lstO rs h1
    rw [q.bls h2, ← hK] at sq
    exact ⟨a, bs, rfl, sq, k.here rs (.bl _)⟩
  · cases e
theorem b_tuple (hK : X.K = W.K) : CallR X (.type "tuple") (rBlt W .tuple) := callImp call_tuple_of fun vs H Q h => by
  obtain ⟨xs, z, st, m, rs, q, e, k⟩ := h
  simp only [bltf] at e
  unfold tupleP at e
  split at e
  · obtain ⟨u, rfl, r⟩ := q.one
    simp only [Option.map_eq_some_iff] at e
    obtain ⟨ys, h1, rfl⟩ := e
    obtain ⟨a, vs, rfl, sq, q, z⟩ := r.lstO rs h1
    rw [← hK] at sq
    exact ⟨a, vs, rfl, .inl ⟨sq, fun l hl => k.tup rs hl q z⟩⟩
  · cases e
/-- tuple(a list), the object known -/
theorem call_tuplei : CallR X (.type "tuple") (fun xs H Q => ∃ p ys, xs = [.ref p] ∧ SqL X.K H p ys ∧ ∀ l o, H l = none → o.dict = none → Q (.ref l) (upd H l (.frz o (.tup ys)))) := by
  intro pins s σ H xs us Q I r h
  obtain ⟨p, ys, rfl, hq, q⟩ := h
  obtain ⟨u, rfl, rx⟩ := vals1 r
  cases rx
  obtain ⟨its, r', pl, hz⟩ := I.list hq
  have hlen := r'.length
  refine call_tuple_list pl.isList (fun h' kp => ?_) (by simp only [List.size_toArray] <;> omega)
  have I1 : Inv X pins σ H { s with heap := h' } := I.kept (t' := s.toks) kp
  exact ⟨.ref h'.objs.size, upd H h'.objs.size (.frz { cls := .type "tuple", data := .seq its.toArray } (.tup ys)), I1.laid (t' := s.toks) (fun b o e => Heap.get?_push_of_some _ e) (Nat.le_refl _) ⟨Heap.get?_push_size _ rfl, hz, its, r', IsTup.new _ _⟩, rfl, q _ _ (I1.hok.fresh (Nat.le_refl _)) rfl⟩
theorem b_tuplei (hK : X.K = W.K) : CallR X (.type "tuple") (rBlt W .tuplei) := callImp call_tuplei fun vs H Q h => by
  obtain ⟨xs, z, st, m, rs, q, e, k⟩ := h
  simp only [bltf] at e
  unfold tupleiP at e
  split at e
  · obtain ⟨u, rfl, r⟩ := q.one
    simp only [Option.map_eq_some_iff] at e
    obtain ⟨ys, h1, rfl⟩ := e
    obtain ⟨a, vs, rfl, sq, q, z⟩ := r.lstO rs h1
    rw [← hK] at sq
    exact ⟨a, vs, rfl, sq, fun l o hl hd => k _ _ m (Le.new rs hl) (rs.new hl) (.tpd upd_same hd (rs.nown hl) z (q.le (Le.new rs hl)))⟩
  · cases e
theorem b_list (hK : X.K = W.K) (hc : X.calm = true) : CallR X (.type "list") (rBlt W .list) := callImp (CallR.or call_list_of (call_list_dK hc)) fun vs H Q h => by
  obtain ⟨xs, z, st, m, rs, q, e, k⟩ := h
  simp only [bltf] at e
  unfold listP at e
  split at e
  · obtain ⟨u, rfl, r⟩ := q.one
    rename_i x
    cases h1 : seqOf st x with
    | some xs =>
      rw [h1] at e
      cases e
      obtain ⟨a, vs, rfl, sq, q, z⟩ := r.seq rs h1
      rw [← hK] at sq
      exact .inl ⟨a, vs, rfl, sq, fun l hl => k.lst rs hl q z⟩
    | none =>
      rw [h1] at e
      simp only [Option.bind_eq_some_iff] at e
      obtain ⟨⟨ks, us⟩, e1, e2⟩ := e
      obtain ⟨a, kvs, rfl, ha, rfl, q⟩ := r.dctI rs e1
      split at e2
      · rename_i hz
        cases e2
        refine .inr ⟨a, kvs, rfl, ha, fun l hl => k.lst rs hl (kvs_keys kvs fun kv hk s es => ?_) (by rw [List.length_map]; exact hz.2)⟩
        have := List.all_eq_true.mp hz.1 kv.1 (List.mem_map_of_mem hk)
        rw [es] at this
        exact of_decide_eq_true this
      · cases e2
  · cases e
/-! a sort of texts has one answer -/
theorem rising_pw : ∀ (ss : List Str) (p : Str), risingS p ss = true → (∀ s ∈ ss, p.cps.toList ≤ s.cps.toList) ∧ ss.Pairwise (fun a b => a.cps.toList ≤ b.cps.toList)
  | [], _, _ => ⟨(fun _ h => nomatch h), List.Pairwise.nil⟩
  | x :: r, p, h => by
    simp only [risingS, Bool.and_eq_true, Bool.not_eq_true', ltCps_eq, decide_eq_false_iff_not] at h
    obtain ⟨h1, h2⟩ := rising_pw r x h.2
    have hp : p.cps.toList ≤ x.cps.toList := List.not_lt.mp h.1
    exact ⟨fun s hs => by
      rcases List.mem_cons.mp hs with rfl | hs
      · exact hp
      · exact List.le_trans hp (h1 s hs), List.Pairwise.cons h1 h2⟩
theorem sorted_pw (ss : List Str) (h : sortedS ss = true) : ss.Pairwise (fun a b => a.cps.toList ≤ b.cps.toList) := by
  cases ss with
  | nil => exact .nil
  | cons x r => exact .cons (rising_pw r x h).1 (rising_pw r x h).2
theorem sorted_one {xs ys : List Str} (h : xs.Perm ys) (h1 : sortedS xs = true) (h2 : sortedS ys = true) : xs = ys :=
  List.Perm.eq_of_pairwise (fun a b _ _ h1 h2 => by
    have e := List.le_antisymm h1 h2
    obtain ⟨⟨a⟩⟩ := a
    obtain ⟨⟨b⟩⟩ := b
    cases e; rfl) (sorted_pw xs h1) (sorted_pw ys h2) h
theorem sortS_eq {xs ys : List Str} (h : ys.Perm xs) (h1 : sortedS ys = true) : sortS xs = ys := by
  unfold sortS
  have hx : ∃ ys : List Str, ys.Perm xs ∧ sortedS ys = true := ⟨ys, h, h1⟩
  rw [dif_pos hx]
  exact sorted_one (hx.choose_spec.1.trans h.symm) hx.choose_spec.2 h1
theorem RepL.ofStrs : ∀ {ys : List Str}, (∀ s ∈ ys, s.length ≤ sizeLine) → RepL W st m H (ys.map V.str) (ys.map PV.str)
  | [], _ => .nil
  | y :: ys, h => .cons (.str (h y (List.mem_cons_self ..))) (RepL.ofStrs fun s hs => h s (List.mem_cons_of_mem _ hs))
theorem b_sorted (hK : X.K = W.K) : CallR X (.builtin "sorted") (rBlt W .sorted) := callImp cr_sortedS fun vs H Q h => by
  obtain ⟨xs, z, st, m, rs, q, e, k⟩ := h
  simp only [bltf] at e
  unfold sortedP at e
  split at e
  · obtain ⟨u, rfl, r⟩ := q.one
    simp only [Option.bind_eq_some_iff] at e
    obtain ⟨ys, h1, ss, h2, e⟩ := e
    split at e
    · rename_i h64
      cases e
      obtain ⟨a, vs, rfl, sq, q, _⟩ := r.lstO rs h1
      obtain ⟨ev, hs⟩ := q.strs h2
      rw [ev, ← hK] at sq
      refine ⟨a, ss, rfl, sq, h64, fun zs p hp hsort hn => ?_⟩
      rw [sortS_eq hp hsort] at k
      exact k.lst rs hn (RepL.ofStrs fun s hs' => hs s (hp.subset hs')) (by rw [List.length_map, hp.length_eq]; exact Nat.le_of_lt (Nat.lt_of_lt_of_le h64 (by rw [sizeLine_eq]; decide)))
    · cases e
  · cases e
/-! isinstance -/
def tyS : Ty → String
  | .int => "int" | .bool => "bool" | .str => "str" | .tuple => "tuple"
def rIsiP (W : Wd) (t : Ty) : List V → Hp → VK → Prop := fun vs H Q => ∃ v x b st m, vs = [v, .ty (tyS t)] ∧ RSt W st m H ∧ Rep W st m H v x ∧ isiP x t = some b ∧ Q (.bl b) H
theorem b_isi (hK : X.K = W.K) (t : Ty) : CallR X (.builtin "isinstance") (rIsiP W t) := callImp call_isi fun vs H Q h => by
  obtain ⟨v, x, b, st, m, rfl, rs, r, e, q⟩ := h
  have fin : ∀ T : String, TyX X.K H v (.type T) → kitB T (tyS t) = some b → rIsi X.K [v, .ty (tyS t)] H Q := fun T h1 h2 =>
    ⟨_, _, _, _, b, rfl, .ty _, h1, kit_ty h2, q⟩
  cases r with
  | non => exact fin "NoneType" (.base .non) (by cases t <;> (cases e; decide +kernel))
  | bl c => exact fin "bool" (.base (.bl c)) (by cases t <;> (cases e; decide +kernel))
  | int i => exact fin "int" (.base (.int i)) (by cases t <;> (cases e; decide +kernel))
  | str z => exact fin "str" (.base (.str _)) (by cases t <;> (cases e; decide +kernel))
  | tup e1 n z q1 => exact fin "tuple" (.base (.tup e1)) (by cases t <;> (cases e; decide +kernel))
  | tupK k z q1 =>
    rw [← hK] at k
    obtain ⟨o, its, n, h1, h2, _⟩ := k
    exact fin "tuple" (.kTuple h1 h2) (by cases t <;> (cases e; decide +kernel))
  | lst e1 n z q1 => exact fin "list" (.base (.lst e1)) (by cases t <;> (cases e; decide +kernel))
  | tpd e1 d n z q1 => exact fin "tuple" (.fTuple e1) (by cases t <;> (cases e; decide +kernel))
  | arg e1 n z q1 => cases e
  | argK k z q1 => cases e
  | dct e1 n q1 => cases e
  | obj e1 n z q1 => cases e
  | fn f => cases e
  | ref h => cases e
/-! methods of builtins -/
def rBm (W : Wd) (b : Bm) : V → List V → Hp → VK → Prop := fun v vs H Q => ∃ u x y z st m, vs = [u] ∧ RSt W st m H ∧ Rep W st m H v x ∧ Rep W st m H u y ∧ bmf st b x y = some z ∧ Ans W st m H z Q
theorem mtImp {id : String} {r r' : V → List V → Hp → VK → Prop} (h : MtR X id r) (k : ∀ v vs H Q, r' v vs H Q → r v vs H Q) : MtR X id r' := fun pins s σ H x xs v us Q I rx rs q => h pins s σ H x xs v us Q I rx rs (k _ _ _ _ q)
theorem m_join (hK : X.K = W.K) : MtR X "str.join" (rBm W .join) := mtImp mt_join fun v vs H Q h => by
  obtain ⟨u, x, y, z, st, m, rfl, rs, r1, r2, e, k⟩ := h
  simp only [bmf] at e
  unfold joinP at e
  split at e
  · obtain ⟨rfl, hz⟩ := r1.str_inv
    simp only [Option.bind_eq_some_iff] at e
    obtain ⟨ys, h1, ss, h2, e⟩ := e
    split at e
    · rename_i hl
      cases e
      obtain ⟨a, vs, rfl, sq, q, _⟩ := r2.seq rs h1
      obtain ⟨ev, hs⟩ := q.strs h2
      rw [ev, ← hK] at sq
      refine ⟨_, a, ss, rfl, rfl, sq, by omega, k.here rs (.str (Nat.le_trans hl.2 (by rw [sizeLine_eq]; decide)))⟩
    · cases e
  · cases e
theorem m_split : MtR X "str.split" (rBm W .split) := mtImp mt_split fun v vs H Q h => by
  obtain ⟨u, x, y, z, st, m, rfl, rs, r1, r2, e, k⟩ := h
  simp only [bmf] at e
  unfold splitP at e
  split at e
  · obtain ⟨rfl, hz⟩ := r1.str_inv
    obtain ⟨rfl, hz2⟩ := r2.str_inv
    split at e
    · rename_i hl
      cases e
      have h1 : sizeLine = 16777216 := sizeLine_eq
      refine ⟨_, _, rfl, rfl, beq_eq_false_iff_ne.mpr hl.1, by omega, fun p hp => k.lst rs hp (RepL.ofStrs fun s hs => ?_) ?_⟩
      · exact Nat.le_trans (of_decide_eq_true (List.all_eq_true.mp hl.2.2.2 s hs)) (by omega)
      · rw [List.length_map]; omega
    · cases e
  · cases e
theorem placeS_some {z : Str} : ∀ {ss : List Str} {j : Nat}, placeS z ss = some j → ss[j]? = some z ∧ ∀ m, m < j → ss[m]? ≠ some z
  | [], _, h => by cases h
  | y :: ys, j, h => by
    simp only [placeS] at h
    split at h
    · rename_i e
      cases h
      exact ⟨by simp [e], fun m hm => absurd hm (Nat.not_lt_zero _)⟩
    · rename_i e
      rw [Option.map_eq_some_iff] at h
      obtain ⟨i, h1, rfl⟩ := h
      obtain ⟨h2, h3⟩ := placeS_some h1
      refine ⟨by simpa using h2, fun m hm => ?_⟩
      cases m with
      | zero => simpa using e
      | succ m => simpa using h3 m (by omega)
theorem m_index (hK : X.K = W.K) : MtR X "tuple.index" (rBm W .index) := mtImp mt_tup_index fun v vs H Q h => by
  obtain ⟨u, x, y, z, st, m, rfl, rs, r1, r2, e, k⟩ := h
  simp only [bmf] at e
  unfold indexP at e
  split at e
  · cases r1 with
    | tpd e1 d n z q =>
      obtain ⟨rfl, hz2⟩ := r2.str_inv
      simp only [Option.bind_eq_some_iff, Option.map_eq_some_iff] at e
      obtain ⟨ss, h1, j, h2, rfl⟩ := e
      obtain ⟨ev, hs⟩ := q.strs h1
      obtain ⟨p1, p2⟩ := placeS_some h2
      refine ⟨_, ss, _, j, rfl, rfl, .inl (.inr ⟨_, by rw [e1, ev]⟩), p1, p2, k.here rs (.int _)⟩
  · cases e
end
end BR
end
section
set_option Elab.async false
set_option linter.all false
set_option maxRecDepth 100000
set_option maxHeartbeats 4000000
/-! BrSnd4: what the texts of expressions show. -/
namespace BR
open PySem PySem.Spec PyProof.Rows L2

theorem star_no {e : Expr} {es : List Expr} {env : PySem.Env} (h : isStar e = false) : starEach (e :: es) env = (false, eval e env) :: starEach es env := by
  cases e <;> first | rfl | (exfalso; simp [isStar] at h; done)
theorem back_any {es : List Expr} {env : PySem.Env} (pos : Pos) : (backTo pos (starEach es env)).any (·.1) = es.any isStar := by
  induction es with
  | nil => rfl
  | cons e es ih =>
    cases h : isStar e with
    | false =>
      rw [star_no h, List.any_cons, h, ← ih]
      rfl
    | true =>
      cases e <;> first | (exfalso; simp [isStar] at h; done) | skip
      rfl
theorem abase {o : Expr} {f : Str} {env : PySem.Env} {w : PySem.Sem Value} (h : noSup o = true) : attributeBase o f env w = w := by
  unfold attributeBase
  split
  · exfalso; simp [noSup] at h
  · rfl
theorem plainIx {b : Expr} (h : isSlice b = false) : PlainIx b := by
  intro o i
  unfold subscripted
  cases b <;> first | rfl | (exfalso; simp [isSlice] at h; done)
theorem folded {e : Expr} {env : PySem.Env} (h : isSetE e = false) (x : Value) : foldedSetIterable e env x = pure x := by
  unfold foldedSetIterable
  cases e <;> first | rfl | (exfalso; simp [isSetE] at h; done)
theorem few_ok {es : List Expr} {env : PySem.Env} {pos : Pos} (h : es.any isStar = false) (hl : es.length < 30) : methodCallForm (es.length + ([] : List Keyword).length) (backTo pos (starEach es env)) (backToKw pos (keywordEach [] env)) = true := by
  have h1 : (backTo pos (starEach es env)).all (!·.1) = true := by
    rw [List.all_eq_not_any_not]
    simp only [Bool.not_not]
    rw [back_any, h]; rfl
  unfold methodCallForm
  rw [h1]
  simp [backToKw, keywordEach, hl]
theorem meth_shape {o : Expr} {m : Str} {apos pos : Pos} {es : List Expr} {env : PySem.Env} (h : noSup o = true) (hs : es.any isStar = false) (hl : es.length < 30) (hp : (apos.endLine == pos.line) = true) :
    eval (.Call (.Attribute o m apos) es [] pos) env = (do
      let ov ← eval o env
      standAt apos.atName
      let (f, first) ← holding [ov] (getMethod ov m (do return (← importBound o env).getD true))
      callWith pos f first (backTo pos (starEach es env)) (backToKw pos (keywordEach [] env))) := by
  rw [arm_eval_Call, abase h]
  unfold methodCall
  rw [few_ok hs hl]
  unfold methodCallPos
  simp only [hp, Bool.not_true, Bool.false_or, if_true]
  rfl
theorem plain_true {e : Expr} {env : PySem.Env} (h : plainT e = true) (whole : PySem.Sem Value) : isTrue e env whole = (do let v ← whole; standAt e.pos; holding [v] (truthy v)) := by
  cases e <;> first | rfl | (exfalso; simp [plainT] at h; done) | skip
  rename_i op a p
  cases op <;> first | rfl | (exfalso; simp [plainT] at h; done)
end BR
end
section
set_option Elab.async false
set_option linter.all false
set_option maxRecDepth 100000
set_option maxHeartbeats 4000000
/-! BrSnd5: the rules of expressions, told of the evaluator. -/
namespace BR
open PySem PySem.Spec PyProof.Rows L2

/-- a def's promise: what the evaluator says -/
def spF (W : Wd) (Φ : Phi) (f : Nat) : Sp := fun vs H Q E => ∃ st m xs, RSt W st m H ∧ RepL W st m H vs xs ∧ Sem W E st m H (Φ f xs st) (RpV W) Q
structure XOk (W : Wd) (nm : Nms) (T : Tab) (Φ : Phi) (X : Cx) (Wx : WX) : Prop where
  K : X.K = W.K
  calm : X.calm = true
  nd : X.N.Nodup
  tk : Takes X Wx
  sym : W.sym = nm.sym
  inj : ∀ i j, W.sym i = W.sym j → i = j
  blt : ∀ x, bltNames.contains x = true → X.mg x = none
  gcd : X.mg "gcd" = some (.builtin "math.gcd")
  room : ∃ k, Room (k + 1) X.A ∧ ∀ f, FnR X.prog X.w X.K X.mg X.base (L2.CX X.prog X.w) k (W.fa f) (spF W Φ f)
  fn : ∀ f, nm.isg f = true → X.mg (nm.fnm f) = some (.ref (W.fa f))
  kp : ∀ f, PySem.W.keepIn X.K (.ref (W.fa f)) = true
  glb : ∀ x v, T.glb x = some v → ∃ (u : Value) (w : V), X.mg (W.sym x) = some u ∧ RelV w u ∧ ∀ st m H, Rep W st m H w v
  cls : ∀ c f, T.ini c = some f → X.mg (W.sym c) = some (.ref (W.ca c)) ∧ Mk X.K (W.ca c) (W.fa f)
  isc : ∀ c, nm.isc c = true → ∃ f, T.ini c = some f
  mth : ∀ c m f, T.mth c m = some f → Cls X.K (W.ca c) ∧ Meth X.K (W.ca c) (W.sym m) (W.fa f)
  att : ∀ c f, T.att c f = true → Cls X.K (W.ca c) ∧ NoAttr X.K (W.ca c) (W.sym f)
theorem tM.step {W : Wd} {Wx : WX} {α β γ δ : Type} {Rp : Sto → Mp → Hp → β → α → Prop} {Rq : Sto → Mp → Hp → δ → γ → Prop} {f : Env → Sto → Mo α} {g : α → Sto → Mo γ} {σ : L2.St} {H : Hp} {P : δ → Hp → Prop} {env : Env} {st : Sto} {m : Mp}
    (re : REnv W st m H σ env) (rs : RSt W st m H) (s : Sem W (fun c d H => Wx c d σ H) st m H (BR.bnd (f env st) g) Rq P) {Q : β → Hp → Prop}
    (k : ∀ b H1 a st1 m1, Le st m H st1 m1 H1 → REnv W st1 m1 H1 σ env → RSt W st1 m1 H1 → Rp st1 m1 H1 b a → Sem W (fun c d H => Wx c d σ H) st1 m1 H1 (g a st1) Rq P → Q b H1) : tM W Wx Rp f σ H Q :=
  ⟨env, st, m, re, rs, (Sem.bnd (Rp := Rp) s).mono fun b H1 ⟨a, st1, m1, l, rs1, p, s1⟩ => k b H1 a st1 m1 l (re.le l) rs1 p s1⟩
section
variable {W : Wd} {nm : Nms} {T : Tab} {Φ : Phi} {X : Cx} {Wx : WX} {fa fb fc : Env → Sto → Mo PV} {fl : Env → Sto → Mo (List PV)} {a b c : Expr} {es : List Expr} {pos pos' pos2 : Pos}
theorem XOk.units (ok : XOk W nm T Φ X Wx) : X.A.units + 64 < cLine := by
  obtain ⟨k, r, _⟩ := ok.room
  exact r.units
theorem vis_of {sc : Scope} {x : Str} (h : visB sc x = true) : Vis sc x := by
  unfold visB at h
  split at h <;> first | exact .inl (by assumption) | exact .inr (.inl (by assumption)) | exact .inr (.inr (by assumption)) | cases h
theorem gl_of {x : Str} (h : glB X.env.scope x = true) : Gl X x := by
  unfold glB at h
  split at h
  · assumption
  · cases h
theorem nb_of {x : Str} (h : nb x = true) : (x == ("__debug__" : Str)) = false ∧ (x == ("__classdict__" : Str)) = false ∧ x ≠ ("__name__" : Str) := by
  unfold nb at h
  simp only [Bool.and_eq_true, Bool.not_eq_true', decide_eq_false_iff_not] at h
  exact ⟨h.1.1, h.1.2, h.2⟩
theorem p_var {i : Nat} {x : Str} (hN : X.N[i]? = some x) (hv : visB X.env.scope x = true) (hn : nb x = true) : PE X (.Name x pos) (tM W Wx (RpV W) fun env st => lif (look env i) st) :=
  PE.imp (pe_var hN (vis_of hv) (nb_of hn).1 (nb_of hn).2.1) fun σ H Q ⟨env, st, m, re, rs, s⟩ => by
    obtain ⟨x, e, k⟩ := s.lif
    obtain ⟨v, h1, h2⟩ := re.2 i x e
    exact ⟨v, h1, k v H m Le.refl rs h2⟩
theorem p_const {pe : Expr} {v : V} {x : PV} (h : PE X pe (tC v)) (r : ∀ st m H, Rep W st m H v x) : PE X pe (tM W Wx (RpV W) fun _ st => ret x st) :=
  PE.imp h fun σ H Q ⟨env, st, m, re, rs, s⟩ => s.ret rs (r st m H)
theorem p_glb (ok : XOk W nm T Φ X Wx) {x : Nat} (hg : glB X.env.scope (W.sym x) = true) (hn : nb (W.sym x) = true) : PE X (.Name (W.sym x) pos) (tM W Wx (RpV W) fun _ st => lif (T.glb x) st) := by
  cases e : T.glb x with
  | none => exact ⟨fun pins s σ H Q I ⟨env, st, m, re, rs, h⟩ => h.elim⟩
  | some v =>
    obtain ⟨u, w, hm, r, rp⟩ := ok.glb x v e
    exact p_const (pe_glob (gl_of hg) hm r (nb_of hn).1) rp
theorem p_bin (ok : XOk W nm T Φ X Wx) {op : Op2} {o : Operator} (ho : opB op o = true) (ha : PE X a (tM W Wx (RpV W) fa)) (hb : PE X b (tM W Wx (RpV W) fb)) :
    PE X (.BinOp a o b pos) (tM W Wx (RpV W) fun env st => bnd (fa env st) fun x st => bnd (fb env st) fun y st => lif (bin2 op x y) st) :=
  PE.imp (pe_op (op_bin ok.K op o ho) ha hb) fun σ H Q ⟨env, st, m, re, rs, s⟩ =>
    tM.step re rs s fun v H1 x st1 m1 l1 re1 rs1 r1 s1 => tM.step re1 rs1 s1 fun u H2 y st2 m2 l2 re2 rs2 r2 s2 => by
      obtain ⟨z, e, k⟩ := s2.lif
      exact ⟨x, y, z, st2, m2, rs2, r1.le l2, r2, e, k⟩
theorem p_neg (ha : PE X a (tM W Wx (RpV W) fa)) : PE X (.UnaryOp .USub a pos) (tM W Wx (RpV W) fun env st => bnd (fa env st) fun x st => match x with
    | .int i => ret (.int (-i)) st
    | _ => none) :=
  PE.imp (pe_un un_neg ha) fun σ H Q ⟨env, st, m, re, rs, s⟩ =>
    tM.step re rs s fun v H1 x st1 m1 l1 re1 rs1 r1 s1 => by
      cases x <;> first | (exact s1.elim) | skip
      cases r1
      exact ⟨_, rfl, s1.ret rs1 (.int _)⟩
/-- both sides of a comparison -/
theorem p_cmp (ok : XOk W nm T Φ X Wx) {op : Cp} {o : CmpOp} (ho : cpB op o = true) (hm : behindInMarks o b = false) (hn : isNoneCp op = true → isNonE b = true) (ha : PE X a (tM W Wx (RpV W) fa)) (hb : PE X b (tM W Wx (RpV W) fb))
    (hf : isNonE b = true → ∀ env st, fb env st = ret .non st) :
    PE X (.Compare a [o] [b] pos) (tM W Wx (RpV W) fun env st => bnd (fa env st) fun x st => bnd (fb env st) fun y st => bnd (lif (cmpo st op x y) st) fun r st => ret (.bl r) st) :=
  PE.imp (pe_cmpR (op_cmp ok.K ok.units op o ho) ha hb hm) fun σ H Q ⟨env, st, m, re, rs, s⟩ =>
    tM.step re rs s fun v H1 x st1 m1 l1 re1 rs1 r1 s1 => by
      by_cases hb' : isNoneCp op = true
      · have hne := hf (hn hb') env st1
        rw [hne] at s1
        refine ⟨env, st1, m1, re1, rs1, ?_⟩
        rw [hne]
        intro u H2 m2 l2 rs2 r2
        obtain ⟨z, e, s3⟩ := Sem.lif_bnd (s1 : Sem W _ st1 m1 H1 (bnd (lif (cmpo st1 op x .non) st1) _) _ _)
        refine ⟨x, .non, z, st1, m2, rs2, r1.le l2, r2, fun _ => rfl, e, ?_⟩
        exact s3 _ _ _ l2 rs2 (.bl z)
      · exact tM.step re1 rs1 s1 fun u H2 y st2 m2 l2 re2 rs2 r2 s2 => by
          obtain ⟨z, e, s3⟩ := s2.lif_bnd
          exact ⟨x, y, z, st2, m2, rs2, r1.le l2, r2, fun z => absurd z hb', e, s3.ret rs2 (.bl z)⟩
end
end BR
end
section
set_option Elab.async false
set_option linter.all false
set_option maxRecDepth 100000
set_option maxHeartbeats 4000000
/-! BrSnd6: more rules of expressions. -/
namespace BR
open PySem PySem.Spec PyProof.Rows L2
theorem Sem.ret' {W : Wd} {Ex : XK} {st : Sto} {m : Mp} {H : Hp} {z : PV} {Q : VK} (h : Sem W Ex st m H (some (.ok z st)) (RpV W) Q) : Ans W st m H z Q := h
section
variable {W : Wd} {nm : Nms} {T : Tab} {Φ : Phi} {X : Cx} {Wx : WX} {fa fb fc : Env → Sto → Mo PV} {fl : Env → Sto → Mo (List PV)} {a b c : Expr} {es : List Expr} {pos pos' pos2 : Pos}
theorem p_chain (ok : XOk W nm T Φ X Wx) {o1 o2 : Cp} {p1 p2 : CmpOp} (h1 : cpB o1 p1 = true) (h2 : cpB o2 p2 = true) (hm : lastMarks [p1, p2] [b, c] = false) (n1 : isNoneCp o1 = false) (n2 : isNoneCp o2 = false)
    (ha : PE X a (tM W Wx (RpV W) fa)) (hb : PE X b (tM W Wx (RpV W) fb)) (hc : PE X c (tM W Wx (RpV W) fc)) :
    PE X (.Compare a [p1, p2] [b, c] pos) (tM W Wx (RpV W) fun env st => bnd (fa env st) fun x st => bnd (fb env st) fun y st => bnd (lif (cmpo st o1 x y) st) fun r st => match r with
      | true => bnd (fc env st) fun z st => bnd (lif (cmpo st o2 y z) st) fun r st => ret (.bl r) st
      | false => ret (.bl false) st) :=
  PE.imp (pe_chain (op_cmp ok.K ok.units o1 p1 h1) (op_cmp ok.K ok.units o2 p2 h2) ha hb hc hm) fun σ H Q ⟨env, st, m, re, rs, s⟩ =>
    tM.step re rs s fun v H1 x st1 m1 l1 re1 rs1 r1 s1 => tM.step re1 rs1 s1 fun u H2 y st2 m2 l2 re2 rs2 r2 s2 => by
      obtain ⟨z, e, s3⟩ := s2.lif_bnd
      refine ⟨x, y, z, st2, m2, rs2, r1.le l2, r2, fun z => absurd z (by rw [n1]; decide), e, z, rfl, ?_⟩
      cases z with
      | false => exact s3.ret rs2 (.bl false)
      | true =>
        exact tM.step re2 rs2 s3 fun w H3 z3 st3 m3 l3 re3 rs3 r3 s4 => by
          obtain ⟨z, e, s5⟩ := s4.lif_bnd
          exact ⟨y, z3, z, st3, m3, rs3, r2.le l3, r3, fun z => absurd z (by rw [n2]; decide), e, s5.ret rs3 (.bl z)⟩
theorem pt_chain' (ok : XOk W nm T Φ X Wx) {o1 o2 : Cp} {p1 p2 : CmpOp} (h1 : cpB o1 p1 = true) (h2 : cpB o2 p2 = true) (hm : lastMarks [p1, p2] [b, c] = false) (n1 : isNoneCp o1 = false) (n2 : isNoneCp o2 = false)
    (ha : PE X a (tM W Wx (RpV W) fa)) (hb : PE X b (tM W Wx (RpV W) fb)) (hc : PE X c (tM W Wx (RpV W) fc)) :
    PT X (.Compare a [p1, p2] [b, c] pos) (tM W Wx RpB fun env st => bnd (fa env st) fun x st => bnd (fb env st) fun y st => bnd (lif (cmpo st o1 x y) st) fun r st => match r with
      | true => bnd (fc env st) fun z st => lif (cmpo st o2 y z) st
      | false => ret false st) :=
  PT.imp (pt_chain (op_cmp ok.K ok.units o1 p1 h1) (op_cmp ok.K ok.units o2 p2 h2) ha hb hc hm) fun σ H Q ⟨env, st, m, re, rs, s⟩ =>
    tM.step re rs s fun v H1 x st1 m1 l1 re1 rs1 r1 s1 => tM.step re1 rs1 s1 fun u H2 y st2 m2 l2 re2 rs2 r2 s2 => by
      obtain ⟨z, e, s3⟩ := s2.lif_bnd
      refine ⟨x, y, z, st2, m2, rs2, r1.le l2, r2, fun z => absurd z (by rw [n1]; decide), e, z, rfl, ?_⟩
      cases z with
      | false => exact ⟨false, rfl, s3.ret rs2 rfl⟩
      | true =>
        exact tM.step re2 rs2 s3 fun w H3 z3 st3 m3 l3 re3 rs3 r3 s4 => by
          obtain ⟨z, e, k⟩ := s4.lif
          exact ⟨y, z3, z, st3, m3, rs3, r2.le l3, r3, fun z => absurd z (by rw [n2]; decide), e, z, rfl, k z H3 m3 Le.refl rs3 rfl⟩
theorem pt_cmp' (ok : XOk W nm T Φ X Wx) {op : Cp} {o : CmpOp} (ho : cpB op o = true) (hm : behindInMarks o b = false) (hn : isNoneCp op = true → isNonE b = true) (ha : PE X a (tM W Wx (RpV W) fa)) (hb : PE X b (tM W Wx (RpV W) fb))
    (hf : isNonE b = true → ∀ env st, fb env st = ret .non st) :
    PT X (.Compare a [o] [b] pos) (tM W Wx RpB fun env st => bnd (fa env st) fun x st => bnd (fb env st) fun y st => lif (cmpo st op x y) st) :=
  PT.imp (pt_cmpR (op_cmp ok.K ok.units op o ho) ha hb hm) fun σ H Q ⟨env, st, m, re, rs, s⟩ =>
    tM.step re rs s fun v H1 x st1 m1 l1 re1 rs1 r1 s1 => by
      by_cases hb' : isNoneCp op = true
      · have hne := hf (hn hb') env st1
        rw [hne] at s1
        refine ⟨env, st1, m1, re1, rs1, ?_⟩
        rw [hne]
        intro u H2 m2 l2 rs2 r2
        obtain ⟨z, e, k⟩ := Sem.lif (s1 : Sem W _ st1 m1 H1 (lif (cmpo st1 op x .non) st1) _ _)
        refine ⟨x, .non, z, st1, m2, rs2, r1.le l2, r2, fun _ => rfl, e, z, rfl, ?_⟩
        exact k _ _ _ l2 rs2 rfl
      · exact tM.step re1 rs1 s1 fun u H2 y st2 m2 l2 re2 rs2 r2 s2 => by
          obtain ⟨z, e, k⟩ := s2.lif
          exact ⟨x, y, z, st2, m2, rs2, r1.le l2, r2, fun z => absurd z hb', e, z, rfl, k z H2 m2 Le.refl rs2 rfl⟩
/-- and, or, not as values -/
theorem p_and (ok : XOk W nm T Φ X Wx) (ha : PE X a (tM W Wx (RpV W) fa)) (hb : PE X (.BoolOp .And (b :: es) pos) (tM W Wx (RpV W) fb)) :
    PE X (.BoolOp .And (a :: b :: es) pos) (tM W Wx (RpV W) fun env st => bnd (fa env st) fun x st => bnd (lif (tru st x) st) fun r st => match r with
      | true => fb env st
      | false => ret x st) :=
  PE.imp (pe_andT ha hb) fun σ H Q ⟨env, st, m, re, rs, s⟩ =>
    tM.step re rs s fun v H1 x st1 m1 l1 re1 rs1 r1 s1 => by
      obtain ⟨z, e, s2⟩ := s1.lif_bnd
      refine ⟨z, by rw [ok.K]; exact r1.tru rs1 e, ?_⟩
      cases z with
      | true => exact ⟨env, st1, m1, re1, rs1, s2⟩
      | false => exact s2.ret rs1 r1
theorem p_or (ok : XOk W nm T Φ X Wx) (ha : PE X a (tM W Wx (RpV W) fa)) (hb : PE X (.BoolOp .Or (b :: es) pos) (tM W Wx (RpV W) fb)) :
    PE X (.BoolOp .Or (a :: b :: es) pos) (tM W Wx (RpV W) fun env st => bnd (fa env st) fun x st => bnd (lif (tru st x) st) fun r st => match r with
      | true => ret x st
      | false => fb env st) :=
  PE.imp (pe_orT ha hb) fun σ H Q ⟨env, st, m, re, rs, s⟩ =>
    tM.step re rs s fun v H1 x st1 m1 l1 re1 rs1 r1 s1 => by
      obtain ⟨z, e, s2⟩ := s1.lif_bnd
      refine ⟨z, by rw [ok.K]; exact r1.tru rs1 e, ?_⟩
      cases z with
      | true => exact s2.ret rs1 r1
      | false => exact ⟨env, st1, m1, re1, rs1, s2⟩
theorem p_not (ok : XOk W nm T Φ X Wx) (ha : PE X a (tM W Wx (RpV W) fa)) :
    PE X (.UnaryOp .Not a pos) (tM W Wx (RpV W) fun env st => bnd (fa env st) fun x st => bnd (lif (tru st x) st) fun r st => ret (.bl (!r)) st) :=
  PE.imp (pe_notT ha) fun σ H Q ⟨env, st, m, re, rs, s⟩ =>
    tM.step re rs s fun v H1 x st1 m1 l1 re1 rs1 r1 s1 => by
      obtain ⟨z, e, s2⟩ := s1.lif_bnd
      exact ⟨z, by rw [ok.K]; exact r1.tru rs1 e, s2.ret rs1 (.bl _)⟩
/-- tests -/
theorem t_truth (ok : XOk W nm T Φ X Wx) (hp : plainT a = true) (ha : PE X a (tM W Wx (RpV W) fa)) : PT X a (tM W Wx RpB fun env st => bnd (fa env st) fun x st => lif (tru st x) st) :=
  PT.imp (pt_truth ha (plain_true hp)) fun σ H Q ⟨env, st, m, re, rs, s⟩ =>
    tM.step re rs s fun v H1 x st1 m1 l1 re1 rs1 r1 s1 => by
      obtain ⟨z, e, k⟩ := s1.lif
      exact ⟨z, by rw [ok.K]; exact r1.tru rs1 e, k z H1 m1 Le.refl rs1 rfl⟩
variable {ga gb : Env → Sto → Mo Bool}
theorem t_and (ha : PT X a (tM W Wx RpB ga)) (hb : PW X (.BoolOp .And (b :: es) pos) (tM W Wx RpB gb)) :
    PW X (.BoolOp .And (a :: b :: es) pos) (tM W Wx RpB fun env st => bnd (ga env st) fun r st => match r with
      | true => gb env st
      | false => ret false st) :=
  PW.imp (pw_and ha hb) fun σ H Q ⟨env, st, m, re, rs, s⟩ =>
    tM.step re rs s fun v H1 x st1 m1 l1 re1 rs1 r1 s1 => by
      cases r1
      cases v with
      | true => exact ⟨env, st1, m1, re1, rs1, s1⟩
      | false => exact s1.ret rs1 rfl
theorem t_or (ha : PT X a (tM W Wx RpB ga)) (hb : PW X (.BoolOp .Or (b :: es) pos) (tM W Wx RpB gb)) :
    PW X (.BoolOp .Or (a :: b :: es) pos) (tM W Wx RpB fun env st => bnd (ga env st) fun r st => match r with
      | true => ret true st
      | false => gb env st) :=
  PW.imp (pw_or ha hb) fun σ H Q ⟨env, st, m, re, rs, s⟩ =>
    tM.step re rs s fun v H1 x st1 m1 l1 re1 rs1 r1 s1 => by
      cases r1
      cases v with
      | true => exact s1.ret rs1 rfl
      | false => exact ⟨env, st1, m1, re1, rs1, s1⟩
theorem t_not (ha : PT X a (tM W Wx RpB ga)) : PT X (.UnaryOp .Not a pos) (tM W Wx RpB fun env st => bnd (ga env st) fun r st => ret (!r) st) :=
  PT.imp (pt_not ha) fun σ H Q ⟨env, st, m, re, rs, s⟩ =>
    tM.step re rs s fun v H1 x st1 m1 l1 re1 rs1 r1 s1 => by
      cases r1
      exact s1.ret rs1 rfl
theorem p_ite (ht : PT X a (tM W Wx RpB ga)) (hb : PE X b (tM W Wx (RpV W) fb)) (hc : PE X c (tM W Wx (RpV W) fc)) :
    PE X (.IfExp a b c pos) (tM W Wx (RpV W) fun env st => bnd (ga env st) fun r st => match r with
      | true => fb env st
      | false => fc env st) :=
  PE.imp (pe_ifExp ht hb hc) fun σ H Q ⟨env, st, m, re, rs, s⟩ =>
    tM.step re rs s fun v H1 x st1 m1 l1 re1 rs1 r1 s1 => by
      cases r1
      cases v with
      | true => exact ⟨env, st1, m1, re1, rs1, s1⟩
      | false => exact ⟨env, st1, m1, re1, rs1, s1⟩
/-! displays -/
theorem p_tup {x1 : Nat} (h : PA X es (tM W Wx (RpL W) fl)) : PE X (.Tuple es x1 pos) (tM W Wx (RpV W) fun env st => bnd (fl env st) fun xs st => if xs.length ≤ sizeLine then ret (.tup xs) st else none) :=
  PE.imp (pe_tup h) fun σ H Q ⟨env, st, m, re, rs, s⟩ =>
    tM.step re rs s fun v H1 xs st1 m1 l1 re1 rs1 r1 s1 => by
      split at s1
      · rename_i hz
        exact ⟨by rw [r1.length]; exact hz, fun p hp => Ans.tup (Sem.ret' s1) rs1 hp r1 hz⟩
      · exact s1.elim
theorem p_lst (h : PA X es (tM W Wx (RpL W) fl)) : PE X (.List es pos) (tM W Wx (RpV W) fun env st => bnd (fl env st) fun xs st => if xs.length ≤ sizeLine then ret (.lst xs) st else none) :=
  PE.imp (pe_lst h) fun σ H Q ⟨env, st, m, re, rs, s⟩ =>
    tM.step re rs s fun v H1 xs st1 m1 l1 re1 rs1 r1 s1 => by
      split at s1
      · rename_i hz
        exact ⟨by rw [r1.length]; exact hz, fun p hp => Ans.lst (Sem.ret' s1) rs1 hp r1 hz⟩
      · exact s1.elim
theorem p_newd : PE X (.Dict [] [] pos) (tM W Wx (RpV W) fun _ st => ret (.dct [] []) st) :=
  PE.imp pe_dnewK fun σ H Q ⟨env, st, m, re, rs, s⟩ p hp => by
    have k := Sem.ret' s
    exact k _ _ m (Le.new rs hp) (rs.new hp) (.dct (kvs := []) upd_same (rs.nown hp) .nil)
theorem p_nil : PA X [] (tM W Wx (RpL W) fun _ st => ret [] st) :=
  PA.imp pa_nil fun σ H Q ⟨env, st, m, re, rs, s⟩ => s.ret rs .nil
theorem p_cons (hs : isStar a = false) (ha : PE X a (tM W Wx (RpV W) fa)) (hr : PA X es (tM W Wx (RpL W) fl)) : PA X (a :: es) (tM W Wx (RpL W) fun env st => bnd (fa env st) fun x st => bnd (fl env st) fun xs st => ret (x :: xs) st) :=
  PA.imp (pa_cons ha hr (star_no hs)) fun σ H Q ⟨env, st, m, re, rs, s⟩ =>
    tM.step re rs s fun v H1 x st1 m1 l1 re1 rs1 r1 s1 => tM.step re1 rs1 s1 fun u H2 y st2 m2 l2 re2 rs2 r2 s2 => s2.ret rs2 (.cons (r1.le l2) r2)
theorem p_star (ok : XOk W nm T Φ X Wx) (ha : PE X a (tM W Wx (RpV W) fa)) (hr : PA X es (tM W Wx (RpL W) fl)) : PA X (.Starred a pos :: es) (tM W Wx (RpL W) fun env st => bnd (fa env st) fun x st => match seqOf st x with
    | some ys => bnd (fl env st) fun xs st => ret (ys ++ xs) st
    | none => none) :=
  PA.imp (StX.pa_star ha hr) fun σ H Q ⟨env, st, m, re, rs, s⟩ =>
    tM.step re rs s fun v H1 x st1 m1 l1 re1 rs1 r1 s1 => by
      cases e : seqOf st1 x with
      | none => rw [e] at s1; exact s1.elim
      | some ys =>
        rw [e] at s1
        obtain ⟨p, vs, rfl, sq, q, z⟩ := r1.seq rs1 e
        rw [← ok.K] at sq
        exact ⟨p, vs, rfl, sq.symm, tM.step re1 rs1 s1 fun u H2 y st2 m2 l2 re2 rs2 r2 s2 => s2.ret rs2 ((q.le l2).append r2)⟩
/-! subscripts, slices, fields -/
theorem p_idx (ok : XOk W nm T Φ X Wx) (hs : isSlice b = false) (ha : PE X a (tM W Wx (RpV W) fa)) (hb : PE X b (tM W Wx (RpV W) fb)) :
    PE X (.Subscript a b pos) (tM W Wx (RpV W) fun env st => bnd (fa env st) fun x st => bnd (fb env st) fun y st => lif (idxP st x y) st) :=
  PE.imp (pe_ix (ix_P ok.K ok.units) ha hb (plainIx hs)) fun σ H Q ⟨env, st, m, re, rs, s⟩ =>
    tM.step re rs s fun v H1 x st1 m1 l1 re1 rs1 r1 s1 => tM.step re1 rs1 s1 fun u H2 y st2 m2 l2 re2 rs2 r2 s2 => by
      obtain ⟨z, e, k⟩ := s2.lif
      exact ⟨x, y, z, st2, m2, rs2, r1.le l2, r2, e, k⟩
theorem intO_some {x : PV} {i : Int} (h : intO x = some i) : x = .int i := by
  cases x <;> first | (cases h; rfl) | cases h
theorem p_slB (ok : XOk W nm T Φ X Wx) (ha : PE X a (tM W Wx (RpV W) fa)) (hb : PE X b (tM W Wx (RpV W) fb)) (hc : PE X c (tM W Wx (RpV W) fc)) :
    PE X (.Subscript a (.Slice (some b) (some c) none pos2) pos) (tM W Wx (RpV W) fun env st => bnd (fa env st) fun x st => bnd (fb env st) fun l st => bnd (lif (intO l) st) fun i st => bnd (fc env st) fun h st => bnd (lif (intO h) st) fun j st => lif (sliP st x (some i) (some j)) st) :=
  PE.imp (pe_slice (sl_P ok.K) ha (po_some hb) (po_some hc)) fun σ H Q ⟨env, st, m, re, rs, s⟩ =>
    tM.step re rs s fun v H1 x st1 m1 l1 re1 rs1 r1 s1 => tM.step re1 rs1 s1 fun u H2 y st2 m2 l2 re2 rs2 r2 s2 => by
      obtain ⟨i, e, s2⟩ := s2.lif_bnd
      obtain rfl := intO_some e
      refine ⟨i, r2.int_inv, tM.step re2 rs2 s2 fun w H3 z st3 m3 l3 re3 rs3 r3 s3 => ?_⟩
      obtain ⟨j, e, s3⟩ := s3.lif_bnd
      obtain rfl := intO_some e
      obtain ⟨z, e, k⟩ := s3.lif
      exact ⟨j, r3.int_inv, x, z, st3, m3, rs3, (r1.le l2).le l3, e, k⟩
theorem p_slL (ok : XOk W nm T Φ X Wx) (ha : PE X a (tM W Wx (RpV W) fa)) (hb : PE X b (tM W Wx (RpV W) fb)) :
    PE X (.Subscript a (.Slice (some b) none none pos2) pos) (tM W Wx (RpV W) fun env st => bnd (fa env st) fun x st => bnd (fb env st) fun l st => bnd (lif (intO l) st) fun i st => lif (sliP st x (some i) none) st) :=
  PE.imp (pe_slice (sl_P ok.K) ha (po_some hb) po_none) fun σ H Q ⟨env, st, m, re, rs, s⟩ =>
    tM.step re rs s fun v H1 x st1 m1 l1 re1 rs1 r1 s1 => tM.step re1 rs1 s1 fun u H2 y st2 m2 l2 re2 rs2 r2 s2 => by
      obtain ⟨i, e, s2⟩ := s2.lif_bnd
      obtain rfl := intO_some e
      obtain ⟨z, e, k⟩ := s2.lif
      exact ⟨i, r2.int_inv, x, z, st2, m2, rs2, r1.le l2, e, k⟩
theorem p_slH (ok : XOk W nm T Φ X Wx) (ha : PE X a (tM W Wx (RpV W) fa)) (hb : PE X b (tM W Wx (RpV W) fb)) :
    PE X (.Subscript a (.Slice none (some b) none pos2) pos) (tM W Wx (RpV W) fun env st => bnd (fa env st) fun x st => bnd (fb env st) fun l st => bnd (lif (intO l) st) fun i st => lif (sliP st x none (some i)) st) :=
  PE.imp (pe_slice (sl_P ok.K) ha po_none (po_some hb)) fun σ H Q ⟨env, st, m, re, rs, s⟩ =>
    tM.step re rs s fun v H1 x st1 m1 l1 re1 rs1 r1 s1 => tM.step re1 rs1 s1 fun u H2 y st2 m2 l2 re2 rs2 r2 s2 => by
      obtain ⟨i, e, s2⟩ := s2.lif_bnd
      obtain rfl := intO_some e
      obtain ⟨z, e, k⟩ := s2.lif
      exact ⟨i, r2.int_inv, x, z, st2, m2, rs2, r1.le l2, e, k⟩
theorem fld_look {W : Wd} (inj : ∀ i j, W.sym i = W.sym j → i = j) {st : Sto} {m : Mp} {H : Hp} {f : Nat} {z : PV} : ∀ {fv : List (Str × V)} {fs : List Nat} {us : List PV}, fv.map (·.1) = fs.map W.sym → RepL W st m H (fv.map (·.2)) us → fldP f fs us = some z → ∃ v, fv.lookup (W.sym f) = some v ∧ Rep W st m H v z
  | [], fs, us, e, q, h => by
    cases fs with
    | nil => simp [fldP] at h
    | cons => cases e
  | (x, w) :: fv, fs, us, e, q, h => by
    cases fs with
    | nil => cases e
    | cons g fs =>
      cases us with
      | nil => cases q
      | cons u us =>
        cases q with
        | cons r t =>
          simp only [List.map_cons, List.cons.injEq] at e
          simp only [fldP] at h
          rw [List.lookup_cons]
          by_cases hg : g = f
          · rw [if_pos hg] at h
            cases h
            rw [e.1, hg, beq_self_eq_true]
            exact ⟨w, rfl, r⟩
          · rw [if_neg hg] at h
            obtain ⟨v, h1, h2⟩ := fld_look inj e.2 t h
            have : (W.sym f == x) = false := by
              rw [beq_eq_false_iff_ne]
              intro z
              exact hg (inj _ _ (by rw [z, e.1]))
            rw [this]
            exact ⟨v, h1, h2⟩
theorem p_fld (ok : XOk W nm T Φ X Wx) {f : Nat} (hn : noSup a = true) (ha : PE X a (tM W Wx (RpV W) fa)) :
    PE X (.Attribute a (W.sym f) pos) (tM W Wx (RpV W) fun env st => bnd (fa env st) fun x st => lif ((objOf st x).bind fun o => if T.att o.1 f = true then fldP f o.2.1 o.2.2 else none) st) :=
  PE.imp (pe_fld ha (abase hn)) fun σ H Q ⟨env, st, m, re, rs, s⟩ =>
    tM.step re rs s fun v H1 x st1 m1 l1 re1 rs1 r1 s1 => by
      obtain ⟨z, e, k⟩ := s1.lif
      simp only [Option.bind_eq_some_iff] at e
      obtain ⟨⟨c, fs, us⟩, e1, e2⟩ := e
      obtain ⟨p, dx, fv, rfl, ha, e3, q⟩ := r1.objI rs1 e1
      split at e2
      · rename_i hat
        obtain ⟨c1, c2⟩ := ok.att _ _ hat
        obtain ⟨w, h1, h2⟩ := fld_look ok.inj e3 q e2
        exact ⟨p, W.ca c, dx, fv, w, rfl, ha, c1, c2, h1, k w H1 m1 Le.refl rs1 h2⟩
      · cases e2
end
end BR
end
section
set_option Elab.async false
set_option linter.all false
set_option maxRecDepth 100000
set_option maxHeartbeats 4000000
/-! BrSnd7: calls. -/
namespace BR
open PySem PySem.Spec PyProof.Rows L2
section
variable {W : Wd} {nm : Nms} {T : Tab} {Φ : Phi} {X : Cx} {Wx : WX} {fa fb fc : Env → Sto → Mo PV} {fl : Env → Sto → Mo (List PV)} {a b c e : Expr} {es : List Expr} {pos pos' pos2 : Pos}
theorem run_fnG {pins : List (Addr × Obj)} {σ : L2.St} {H : Hp} {s : Shared} {CX : CXT} {k : Nat} {f : Addr} {sp : Sp} {E : XK} {Q : VK} {us : List Value} {vs : List V} (F : FnR X.prog X.w X.K X.mg X.base CX k f sp) (hr : Room k X.A) (hx : PassesAt CX X σ E) (I : Inv X pins σ H s) (r : Vals vs us) (h : sp vs H Q E) :
    wpAny (model X.prog X.w) X.A (call (.ref f) us) (EP X pins σ Q) X.xe s := by
  refine wpAny_call (codeAny_mono (F X.A X.stack s H us vs Q E hr I.env0 r h) fun r s' hq => ?_)
  cases r with
  | error e => exact hx pins H s e s' I hq
  | ok fl =>
    cases fl with
    | ret u => exact I.after hq
    | next => exact False.elim hq
    | brk => exact False.elim hq
    | cont => exact False.elim hq
theorem run_makeG {pins : List (Addr × Obj)} {σ : L2.St} {H : Hp} {s : Shared} {CX : CXT} {k : Nat} {f C : Addr} {sp : Sp} {E : XK} {Q : VK} {us : List Value} {vs : List V} (M : Mk X.K C f) (F : FnR X.prog X.w X.K X.mg X.base CX k f sp) (hr : Room (k + 1) X.A) (hx : PassesAt CX X σ E) (I : Inv X pins σ H s) (r : Vals vs us)
    (h : ∀ x dx, H x = Option.none → H dx = Option.none → dx ≠ x → sp (V.ref x :: vs) (upd (upd H dx (.own x)) x (.ins C dx [])) (fun v H2 => v = .non ∧ Q (.ref x) H2) E) :
    wpAny (model X.prog X.w) X.A (call (.ref C) us) (EP X pins σ Q) X.xe s := by
  have hq := h (s.heap.objs.size + 1) s.heap.objs.size (I.hok.fresh (Nat.le_succ _)) (I.hok.fresh (Nat.le_refl _)) (Nat.ne_of_lt (Nat.lt_succ_self _))
  have I2 := Inv.made (C := C) I
  have r2 : Vals (V.ref (s.heap.objs.size + 1) :: vs) (Value.ref (s.heap.objs.size + 1) :: us) := .cons rfl r
  refine wpAny_call (make_map (f := f) I.kIn M.makes M.init (beq_iff_eq.mp M.fn) (codeAny_mono (F _ X.stack _ _ (Value.ref (s.heap.objs.size + 1) :: us) _ _ E (hr.make C us []) (I2.env0.make C us []) r2 hq) fun r s' hq' => ?_))
  cases r with
  | error e => exact hx pins _ _ e s' I2 hq'
  | ok fl =>
    cases fl with
    | ret u =>
      obtain ⟨v, H', I3, rv, ev, q3⟩ := I2.after hq'
      subst ev
      exact ⟨rv, ⟨V.ref (s.heap.objs.size + 1), H', I3, rfl, q3⟩⟩
    | next => exact False.elim hq'
    | brk => exact False.elim hq'
    | cont => exact False.elim hq'
/-- the node's callWith of a def -/
theorem cw_any {pins : List (Addr × Obj)} {σ : L2.St} {s : Shared} {R : List V → Hp → Prop} {f : Value} {first : List Value} {Q : Value → Shared → Prop} (kin : X.K.In X.base) (hk : PySem.W.keepIn X.K f = true) (he : isStar e = false)
    (h : wpAny (model X.prog X.w) X.A (spliced (backTo pos (starEach (e :: es) X.env))) (AP X pins σ R) X.xe s)
    (k : ∀ us s1 vs H1, Inv X pins σ H1 s1 → Vals vs us → R vs H1 → wpAny (model X.prog X.w) X.A (call f (first ++ us)) Q X.xe s1) :
    wpAny (model X.prog X.w) X.A (callWith pos f first (backTo pos (starEach (e :: es) X.env)) []) Q X.xe s := by
  cases hs : es.any isStar with
  | false => exact PySem.W.callWith_K (h₀ := X.base) kin hk (thn h fun us s1 ⟨vs, H1, I1, r, q⟩ => ⟨I1.kIn, k us s1 vs H1 I1 r q⟩) (star_no he) (by rw [back_any, hs])
  | true => exact PySem.W.callWith_S2 (h₀ := X.base) kin hk (thn h fun us s1 ⟨vs, H1, I1, r, q⟩ => ⟨I1.kIn, k us s1 vs H1 I1 r q⟩) (star_no he) (by rw [back_any, hs])
theorem p_call (ok : XOk W nm T Φ X Wx) {f : Nat} (hg : nm.isg f = true) (hgl : glB X.env.scope (nm.fnm f) = true) (hn : nb (nm.fnm f) = true) (he : isStar e = false) (h : PA X (e :: es) (tM W Wx (RpL W) fl)) :
    PE X (.Call (.Name (nm.fnm f) pos') (e :: es) [] pos) (tM W Wx (RpV W) fun env st => bnd (fl env st) fun vs st => Φ f vs st) := by
  refine ⟨fun pins s σ H Q I ⟨env, st, m, re, rs, sm⟩ => ?_⟩
  obtain ⟨k, room, F⟩ := ok.room
  refine wpAny_Call_Name_kw (ld_glob I (gl_of hgl) (ok.fn f hg) ?_ (nb_of hn).1)
  refine cw_any (R := fun vs H1 => spF W Φ f vs H1 Q (fun c d H => Wx c d σ H)) I.ok.mod.kin (ok.kp f) he (h.run pos pins s σ H _ I (tM.step re rs sm fun vs H1 xs st1 m1 l1 re1 rs1 r1 s1 => ⟨st1, m1, xs, rs1, r1, s1⟩)) fun us s1 vs H1 I1 r q => ?_
  exact run_fnG (F f) (room.mono (Nat.le_succ _)) (passAt ok.tk σ) I1 r q
theorem p_call0 (ok : XOk W nm T Φ X Wx) {f : Nat} (hg : nm.isg f = true) (hgl : glB X.env.scope (nm.fnm f) = true) (hn : nb (nm.fnm f) = true) :
    PE X (.Call (.Name (nm.fnm f) pos') [] [] pos) (tM W Wx (RpV W) fun _ st => Φ f [] st) := by
  refine ⟨fun pins s σ H Q I ⟨env, st, m, re, rs, sm⟩ => ?_⟩
  obtain ⟨k, room, F⟩ := ok.room
  refine wpAny_Call_Name_kw (ld_glob I (gl_of hgl) (ok.fn f hg) ?_ (nb_of hn).1)
  exact PySem.W.callWith_K0 (first := []) I.kIn (ok.kp f) (run_fnG (us := []) (vs := []) (F f) (room.mono (Nat.le_succ _)) (passAt ok.tk σ) I .nil ⟨st, m, [], rs, .nil, sm⟩)
theorem p_callv (ok : XOk W nm T Φ X Wx) {i : Nat} {x : Str} (hN : X.N[i]? = some x) (hv : visB X.env.scope x = true) (hn : nb x = true) (he : isStar e = false) (h : PA X (e :: es) (tM W Wx (RpL W) fl)) :
    PE X (.Call (.Name x pos') (e :: es) [] pos) (tM W Wx (RpV W) fun env st => match look env i with
      | some (.fn f) => bnd (fl env st) fun vs st => Φ f vs st
      | _ => none) := by
  refine ⟨fun pins s σ H Q I ⟨env, st, m, re, rs, sm⟩ => ?_⟩
  obtain ⟨k, room, F⟩ := ok.room
  simp only at sm
  cases el : look env i with
  | none => rw [el] at sm; exact sm.elim
  | some z =>
    rw [el] at sm
    cases z <;> first | (exact sm.elim) | skip
    rename_i f
    obtain ⟨v, h1, h2⟩ := re.2 i _ el
    refine wpAny_Call_Name_kw (thn ((pe_var (pos := pos') hN (vis_of hv) (nb_of hn).1 (nb_of hn).2.1).run pins s σ H (fun w H1 => w = v ∧ H1 = H) I ⟨v, h1, rfl, rfl⟩) fun u s1 ⟨w, H1, I1, r1, q1, q2⟩ => ?_)
    subst q1 q2
    cases h2
    cases r1
    refine cw_any (R := fun vs H1 => spF W Φ f vs H1 Q (fun c d H => Wx c d σ H)) I.ok.mod.kin (ok.kp f) he (h.run pos pins s1 σ H1 _ I1 (tM.step re rs sm fun vs H1 xs st1 m1 l1 re1 rs1 r1 s1 => ⟨st1, m1, xs, rs1, r1, s1⟩)) fun us s1 vs H1 I1 r q => ?_
    exact run_fnG (F f) (room.mono (Nat.le_succ _)) (passAt ok.tk σ) I1 r q
theorem no_look {W : Wd} (inj : ∀ i j, W.sym i = W.sym j → i = j) {f : Nat} : ∀ {fv : List (Str × V)} {fs : List Nat}, fv.map (·.1) = fs.map W.sym → f ∉ fs → fv.lookup (W.sym f) = none
  | [], _, _, _ => rfl
  | (x, w) :: fv, [], e, _ => by cases e
  | (x, w) :: fv, g :: fs, e, h => by
    simp only [List.map_cons, List.cons.injEq] at e
    rw [List.mem_cons, not_or] at h
    rw [List.lookup_cons]
    have : (W.sym f == x) = false := by
      rw [beq_eq_false_iff_ne]
      intro z
      exact h.1 (inj _ _ (by rw [z, e.1]))
    rw [this]
    exact no_look inj e.2 h.2
theorem p_meth (ok : XOk W nm T Φ X Wx) {mt : Nat} (hsup : noSup a = true) (hst : (e :: es).any isStar = false) (hl : (e :: es).length < 30) (hp : (pos'.endLine == pos.line) = true) (ha : PE X a (tM W Wx (RpV W) fa)) (h : PA X (e :: es) (tM W Wx (RpL W) fl)) :
    PE X (.Call (.Attribute a (W.sym mt) pos') (e :: es) [] pos) (tM W Wx (RpV W) fun env st => bnd (fa env st) fun x st => match objOf st x with
      | some (c, fs, _) => if mt ∈ fs then none else match T.mth c mt with
        | some f => bnd (fl env st) fun vs st => Φ f (x :: vs) st
        | none => none
      | none => none) := by
  refine ⟨fun pins s σ H Q I ⟨env, st, m, re, rs, sm⟩ => ?_⟩
  obtain ⟨k, room, F⟩ := ok.room
  have he : isStar e = false := by
    rw [List.any_cons, Bool.or_eq_false_iff] at hst
    exact hst.1
  refine PySem.W.methodCall_KW (thn (ha.run pins s σ H (fun v H1 => ∃ x st1 m1, Le st m H st1 m1 H1 ∧ REnv W st1 m1 H1 σ env ∧ RSt W st1 m1 H1 ∧ Rep W st1 m1 H1 v x ∧ Sem W (fun c d H => Wx c d σ H) st1 m1 H1 _ (RpV W) Q) I (tM.step re rs sm fun v H1 x st1 m1 l1 re1 rs1 r1 s1 => ⟨x, st1, m1, l1, re1, rs1, r1, s1⟩)) fun u s1 ⟨v, H1, I1, rv, x, st1, m1, l1, re1, rs1, r1, sm1⟩ => ?_) (meth_shape hsup hst hl hp)
  cases eo : objOf st1 x with
  | none => rw [eo] at sm1; exact sm1.elim
  | some o =>
    obtain ⟨c, fs, us⟩ := o
    rw [eo] at sm1
    simp only at sm1
    obtain ⟨p, dx, fv, rfl, hH, e3, q⟩ := r1.objI rs1 eo
    by_cases hm : mt ∈ fs
    · rw [if_pos hm] at sm1; exact sm1.elim
    · rw [if_neg hm] at sm1
      cases em : T.mth c mt with
      | none => rw [em] at sm1; exact sm1.elim
      | some f =>
        rw [em] at sm1
        simp only at sm1
        obtain ⟨c1, c2⟩ := ok.mth c mt f em
        cases (show u = Value.ref p from rv)
        refine getmeth_ok I1 hH c1 c2 (no_look ok.inj e3 hm) ?_
        refine cw_any (first := [.ref p]) (R := fun vs H2 => spF W Φ f (V.ref p :: vs) H2 Q (fun c d H => Wx c d σ H)) I1.ok.mod.kin c2.kp he (h.run pos pins s1 σ H1 _ I1 (tM.step re1 rs1 sm1 fun vs H2 xs st2 m2 l2 re2 rs2 r2 s2 => ⟨st2, m2, x :: xs, rs2, .cons (r1.le l2) r2, s2⟩)) fun us s2 vs H2 I2 r q => ?_
        exact run_fnG (F f) (room.mono (Nat.le_succ _)) (passAt ok.tk σ) I2 (vs := V.ref p :: vs) (.cons rfl r) q
end
end BR
end
section
set_option Elab.async false
set_option linter.all false
set_option maxRecDepth 100000
set_option maxHeartbeats 4000000
/-! BrSnd8: builtins, instances, things laid in the store. -/
namespace BR
open PySem PySem.Spec PyProof.Rows L2
/-! ### a new list or dict -/
def RepO (W : Wd) (st : Sto) (m : Mp) (H : Hp) (o : HO) (x : PV) : Prop :=
  (∃ vs xs, o = .lst vs ∧ x = .lst xs ∧ xs.length ≤ sizeLine ∧ RepL W st m H vs xs) ∨ ∃ kvs us, o = .dK kvs ∧ x = .dct (kvs.map (·.1)) us ∧ RepL W st m H (kvs.map (·.2)) us
def isLD : PV → Prop
  | .lst _ => True
  | .dct _ _ => True
  | _ => False
def SemF (W : Wd) (Ex : XK) (st : Sto) (m : Mp) (H : Hp) (r : Mo PV) (Q : VK) : Prop := match r with
  | none => False
  | some (.ok x st') => isLD x ∧ ∀ p H' m' o, Le st m H st' m' H' → RSt W st' m' H' → H' p = none → RepO W st' m' H' o x → Q (.ref p) (upd H' p o)
  | some (.ex c vs st') => ∀ d H' m', Le st m H st' m' H' → RSt W st' m' H' → ExR W st' m' H' d c vs → Ex (.ref (W.ca c)) (some d) H'
theorem SemF.le {W : Wd} {Ex : XK} {st st' : Sto} {m m' : Mp} {H H' : Hp} {r : Mo PV} {Q : VK} (h : SemF W Ex st m H r Q) (l : Le st m H st' m' H') : SemF W Ex st' m' H' r Q := by
  cases r with
  | none => exact h
  | some y =>
    cases y with
    | ok x st2 => exact ⟨h.1, fun p H2 m2 o l2 => h.2 p H2 m2 o (l.trans l2)⟩
    | ex c vs st2 => exact fun d H2 m2 l2 => h d H2 m2 (l.trans l2)
theorem SemF.bnd {α β : Type} {W : Wd} {Ex : XK} {st : Sto} {m : Mp} {H : Hp} {r : Mo α} {f : α → Sto → Mo PV} {Rp : Sto → Mp → Hp → β → α → Prop} {P : VK} (h : SemF W Ex st m H (BR.bnd r f) P) :
    Sem W Ex st m H r Rp (Mid W st m H Rp fun a st1 m1 H1 _ => SemF W Ex st1 m1 H1 (f a st1) P) := by
  cases r with
  | none => exact h
  | some x =>
    cases x with
    | ok a st1 => exact fun b H1 m1 l s p => ⟨a, st1, m1, l, s, p, SemF.le (r := f a st1) h l⟩
    | ex c vs st1 => exact h
def tF (W : Wd) (Wx : WX) (f : Env → Sto → Mo PV) : TE := fun σ H Q => ∃ env st m, REnv W st m H σ env ∧ RSt W st m H ∧ SemF W (fun c d H => Wx c d σ H) st m H (f env st) Q
theorem tF.step {W : Wd} {Wx : WX} {α β : Type} {Rp : Sto → Mp → Hp → β → α → Prop} {f : Env → Sto → Mo α} {g : α → Sto → Mo PV} {σ : L2.St} {H : Hp} {P : VK} {env : Env} {st : Sto} {m : Mp}
    (re : REnv W st m H σ env) (rs : RSt W st m H) (s : SemF W (fun c d H => Wx c d σ H) st m H (BR.bnd (f env st) g) P) {Q : β → Hp → Prop}
    (k : ∀ b H1 a st1 m1, Le st m H st1 m1 H1 → REnv W st1 m1 H1 σ env → RSt W st1 m1 H1 → Rp st1 m1 H1 b a → SemF W (fun c d H => Wx c d σ H) st1 m1 H1 (g a st1) P → Q b H1) : tM W Wx Rp f σ H Q :=
  ⟨env, st, m, re, rs, (SemF.bnd (Rp := Rp) s).mono fun b H1 ⟨a, st1, m1, l, rs1, p, s1⟩ => k b H1 a st1 m1 l (re.le l) rs1 p s1⟩
/-- a place that is added -/
def Mp.add (m : Mp) (n : Nat) (a : Addr) : Mp := ⟨fun i => if i = n then a else m i, m.hid⟩
section
variable {W : Wd} {st : Sto} {m : Mp} {H : Hp} {p : Addr} {o : HO} {c : Cell}
theorem add_old {n i : Nat} {a : Addr} (h : i < n) : (m.add n a) i = m i := if_neg (Nat.ne_of_lt h)
theorem add_new {n : Nat} {a : Addr} : (m.add n a) n = a := if_pos rfl
/-- a cell is laid at a new place -/
theorem Le.cell (rs : RSt W st m H) (hp : H p = none) : Le st m H (st ++ [c]) (m.add st.length p) (upd H p o) := by
  have ne : ∀ {a u}, H a = some u → a ≠ p := fun {a u} e z => by rw [z, hp] at e; cases e
  refine ⟨⟨by simp, fun n h => add_old h, fun a u e n => ⟨by rw [upd_ne (ne e)]; exact e, fun z => ?_⟩⟩, rfl, fun a ha => ?_⟩
  · rcases z with ⟨i, c', e1, lv, q⟩ | z
    · rcases Nat.lt_or_ge i st.length with h | h
      · rw [List.getElem?_append_left h] at e1
        rw [add_old h] at q
        exact n (.inl ⟨i, c', e1, lv, q⟩)
      · have hi : i = st.length := by
          have := (List.getElem?_eq_some_iff.mp e1).1
          simp at this
          omega
        subst hi
        rw [add_new] at q
        exact ne e q.symm
    · exact n (.inr z)
  · obtain ⟨u, e, _⟩ := rs.hid a ha
    rw [upd_ne (ne e)]
theorem RSt.cellNew (rs : RSt W st m H) (hp : H p = none) (hc : CellR W (st ++ [c]) (m.add st.length p) (upd H p o) p c) : RSt W (st ++ [c]) (m.add st.length p) (upd H p o) := by
  have ne : ∀ {a u}, H a = some u → a ≠ p := fun {a u} e z => by rw [z, hp] at e; cases e
  have l := Le.cell (W := W) (c := c) (o := o) rs hp
  have old : ∀ {i c'}, st[i]? = some c' → i < st.length := fun e => (List.getElem?_eq_some_iff.mp e).1
  have cs : ∀ i c', (st ++ [c])[i]? = some c' → (i < st.length ∧ st[i]? = some c') ∨ (i = st.length ∧ c' = c) := fun i c' e => by
    rcases Nat.lt_or_ge i st.length with h | h
    · rw [List.getElem?_append_left h] at e
      exact .inl ⟨h, e⟩
    · have hi : i = st.length := by
        have := (List.getElem?_eq_some_iff.mp e).1
        simp at this
        omega
      subst hi
      simp at e
      exact .inr ⟨rfl, e.symm⟩
  have at' : ∀ {i c'}, st[i]? = some c' → live c' → ∃ u, H (m i) = some u := fun {i c'} e lv => by
    obtain ⟨u, e1, _⟩ := (rs.cell i c' e).some lv
    exact ⟨u, e1⟩
  refine ⟨fun i c' e => ?_, fun i j c1 c2 e1 e2 v1 v2 q => ?_, fun a ha => ?_, fun i c' e lv z => ?_⟩
  · rcases cs i c' e with ⟨h, e1⟩ | ⟨rfl, rfl⟩
    · rw [add_old h]
      by_cases lv : live c'
      · obtain ⟨u, hu⟩ := at' e1 lv
        exact (rs.cell i c' e1).le l (by rw [upd_ne (ne hu)])
      · cases c' <;> first | trivial | exact absurd trivial lv
    · rw [add_new]; exact hc
  · rcases cs i c1 e1 with ⟨h1, f1⟩ | ⟨rfl, rfl⟩ <;> rcases cs j c2 e2 with ⟨h2, f2⟩ | ⟨rfl, rfl⟩
    · rw [add_old h1, add_old h2] at q
      exact rs.inj i j c1 c2 f1 f2 v1 v2 q
    · rw [add_old h1, add_new] at q
      obtain ⟨u, hu⟩ := at' f1 v1
      exact absurd q (ne hu)
    · rw [add_old h2, add_new] at q
      obtain ⟨u, hu⟩ := at' f2 v2
      exact absurd q.symm (ne hu)
    · rfl
  · obtain ⟨u, e, mu⟩ := rs.hid a ha
    exact ⟨u, by rw [upd_ne (ne e)]; exact e, mu⟩
  · rcases cs i c' e with ⟨h, f⟩ | ⟨rfl, rfl⟩
    · rw [add_old h] at z
      exact rs.hinj i c' f lv z
    · rw [add_new] at z
      obtain ⟨u, e, _⟩ := rs.hid p z
      rw [hp] at e; cases e
end
section
variable {W : Wd} {nm : Nms} {T : Tab} {Φ : Phi} {X : Cx} {Wx : WX} {fa fb fc : Env → Sto → Mo PV} {fl : Env → Sto → Mo (List PV)} {a b c e : Expr} {es : List Expr} {pos pos' pos2 : Pos}
theorem p_cell {pe : Expr} (h : PE X pe (tF W Wx fa)) : PE X pe (tM W Wx (RpV W) fun env st => bnd (fa env st) fun x st => match x with
    | .lst xs => ret (.ref st.length) (st ++ [.lst xs])
    | .dct ks vs => ret (.ref st.length) (st ++ [.dct ks vs])
    | _ => none) :=
  PE.imp h fun σ H Q ⟨env, st, m, re, rs, s⟩ => by
    refine ⟨env, st, m, re, rs, ?_⟩
    simp only at s
    cases ef : fa env st with
    | none => rw [ef] at s; exact s
    | some y =>
      rw [ef] at s
      cases y with
      | ex c vs st1 => exact s
      | ok x st1 =>
        have mk : ∀ (c : Cell), (∀ p H' m' o, H' p = none → RSt W st1 m' H' → RepO W st1 m' H' o x → CellR W (st1 ++ [c]) (m'.add st1.length p) (upd H' p o) p c) → Sem W (fun c d H => Wx c d σ H) st m H (ret (.ref st1.length) (st1 ++ [c])) (RpV W) Q →
            ∀ p H' m' o, Le st m H st1 m' H' → RSt W st1 m' H' → H' p = none → RepO W st1 m' H' o x → Q (.ref p) (upd H' p o) := fun c hc s p H' m' o l rs' hp ro => by
          have l2 := Le.cell (W := W) (c := c) (o := o) rs' hp
          refine s _ _ (m'.add st1.length p) (l.trans l2) (rs'.cellNew hp (hc p H' m' o hp rs' ro)) ?_
          have z : Rep W (st1 ++ [c]) (m'.add st1.length p) (upd H' p o) (.ref ((m'.add st1.length p) st1.length)) (.ref st1.length) := .ref (by simp)
          rw [add_new] at z
          exact z
        have s' : Sem W (fun c d H => Wx c d σ H) st m H (match x with
          | .lst xs => ret (.ref st1.length) (st1 ++ [.lst xs])
          | .dct ks vs => ret (.ref st1.length) (st1 ++ [.dct ks vs])
          | _ => (none : Mo PV)) (RpV W) Q := s
        cases x <;> first | (exact s'.elim) | skip
        · refine ⟨trivial, mk _ (fun p H' m' o hp rs' ro => ?_) s'⟩
          rcases ro with ⟨vs, xs, rfl, e, z, q⟩ | ⟨_, _, _, e, _⟩
          · cases e
            exact ⟨vs, upd_same, z, q.le (Le.cell rs' hp)⟩
          · cases e
        · refine ⟨trivial, mk _ (fun p H' m' o hp rs' ro => ?_) s'⟩
          rcases ro with ⟨_, _, _, e, _⟩ | ⟨kvs, us, rfl, e, q⟩
          · cases e
          · cases e
            exact ⟨kvs, upd_same, rfl, q.le (Le.cell rs' hp)⟩
theorem f_lst (h : PA X es (tM W Wx (RpL W) fl)) : PE X (.List es pos) (tF W Wx fun env st => bnd (fl env st) fun xs st => if xs.length ≤ sizeLine then ret (.lst xs) st else none) :=
  PE.imp (pe_lst h) fun σ H Q ⟨env, st, m, re, rs, s⟩ =>
    tF.step re rs s fun v H1 xs st1 m1 l1 re1 rs1 r1 s1 => by
      split at s1
      · rename_i hz
        exact ⟨by rw [r1.length]; exact hz, fun p hp => s1.2 p H1 m1 _ Le.refl rs1 hp (.inl ⟨_, _, rfl, rfl, hz, r1⟩)⟩
      · exact s1.elim
theorem f_newd : PE X (.Dict [] [] pos) (tF W Wx fun _ st => ret (.dct [] []) st) :=
  PE.imp pe_dnewK fun σ H Q ⟨env, st, m, re, rs, s⟩ p hp => s.2 p H m _ Le.refl rs hp (.inr ⟨[], [], rfl, rfl, .nil⟩)
theorem call_listF : CallR X (.type "list") (fun xs H Q => ∃ p ys, xs = [.ref p] ∧ (SqL X.K H p ys ∨ SqT X.K H p ys) ∧ ∀ l, H l = none → Q (.ref l) (upd H l (.lst ys))) := call_list_of
theorem boot_list : bootBuiltins "list" = some (.type "list") := by decide +kernel
theorem f_list (ok : XOk W nm T Φ X Wx) (hg : glB X.env.scope ("list" : Str) = true) (he : isStar e = false) (hs : es.any isStar = false) (h : PA X (e :: es) (tM W Wx (RpL W) fl)) :
    PE X (.Call (.Name "list" pos') (e :: es) [] pos) (tF W Wx fun env st => bnd (fl env st) fun xs st => lif (bltf st .list xs) st) :=
  PE.imp (pe_callTy (CallR.or call_list_of (call_list_dK ok.calm)) (gl_of hg) (ok.blt _ (by decide)) boot_list h (by decide) (by decide) (star_no he) (by rw [back_any, hs])) fun σ H Q ⟨env, st, m, re, rs, s⟩ =>
    tF.step re rs s fun v H1 xs st1 m1 l1 re1 rs1 r1 s1 => by
      cases eb : bltf st1 .list xs with
      | none => rw [eb] at s1; exact s1.elim
      | some z =>
        rw [eb] at s1
        simp only [bltf] at eb
        unfold listP at eb
        split at eb
        · obtain ⟨u, rfl, r⟩ := r1.one
          rename_i x
          cases h1 : seqOf st1 x with
          | some xs =>
            rw [h1] at eb
            cases eb
            obtain ⟨a, vs, rfl, sq, q, z⟩ := r.seq rs1 h1
            rw [← ok.K] at sq
            exact .inl ⟨a, vs, rfl, sq, fun l hl => s1.2 l H1 m1 _ Le.refl rs1 hl (.inl ⟨_, _, rfl, rfl, z, q⟩)⟩
          | none =>
            rw [h1] at eb
            simp only [Option.bind_eq_some_iff] at eb
            obtain ⟨⟨ks, us⟩, e1, e2⟩ := eb
            obtain ⟨a, kvs, rfl, ha, rfl, q⟩ := r.dctI rs1 e1
            split at e2
            · rename_i hz
              cases e2
              refine .inr ⟨a, kvs, rfl, ha, fun l hl => s1.2 l H1 m1 _ Le.refl rs1 hl (.inl ⟨_, _, rfl, rfl, ?_, kvs_keys kvs fun kv hk s es => ?_⟩)⟩
              · rw [List.length_map]; exact hz.2
              · have := List.all_eq_true.mp hz.1 kv.1 (List.mem_map_of_mem hk)
                rw [es] at this
                exact of_decide_eq_true this
            · cases e2
        · cases eb
theorem f_add (ok : XOk W nm T Φ X Wx) (ha : PE X a (tM W Wx (RpV W) fa)) (hb : PE X b (tM W Wx (RpV W) fb)) :
    PE X (.BinOp a .Add b pos) (tF W Wx fun env st => bnd (fa env st) fun x st => bnd (fb env st) fun y st => lif (bin2 .add x y) st) :=
  PE.imp (pe_op op_cat ha hb) fun σ H Q ⟨env, st, m, re, rs, s⟩ =>
    tF.step re rs s fun v H1 x st1 m1 l1 re1 rs1 r1 s1 => tF.step re1 rs1 s1 fun u H2 y st2 m2 l2 re2 rs2 r2 s2 => by
      cases eb : bin2 .add x y with
      | none => rw [eb] at s2; exact s2.elim
      | some z =>
        rw [eb] at s2
        obtain ⟨hz, s2⟩ := s2
        cases x <;> cases y <;> first | (exfalso; simp [bin2] at eb; done) | skip
        all_goals (simp only [bin2] at eb; try split at eb)
        all_goals first | (cases eb; exact hz.elim) | (cases eb; done) | skip
        rename_i hl
        cases eb
        obtain ⟨a, vs, rfl, h1, _, q1, z1⟩ := (r1.le l2).lst_inv
        obtain ⟨b, ws, rfl, h2, _, q2, z2⟩ := r2.lst_inv
        exact ⟨a, b, vs, ws, rfl, rfl, h1, h2, by rw [q1.length, q2.length]; exact hl, fun p hp => s2 p H2 m2 _ Le.refl rs2 hp (.inl ⟨_, _, rfl, rfl, by rw [List.length_append]; exact hl, q1.append q2⟩)⟩
end
end BR
end
section
set_option Elab.async false
set_option linter.all false
set_option maxRecDepth 100000
set_option maxHeartbeats 4000000
/-! BrSnd9: instances made, things let go, builtins called. -/
namespace BR
open PySem PySem.Spec PyProof.Rows L2
section
variable {W : Wd} {st st' : Sto} {m m' : Mp} {H H' : Hp} {n : Nat} {c : Cell}
/-- a thing of the store is no more -/
theorem own_dead {a : Addr} (h : Own (st.set n .dead) m a) : Own st m a := by
  rcases h with ⟨i, c, e, lv, q⟩ | h
  · by_cases z : i = n
    · subst z
      by_cases hl : i < st.length
      · rw [List.getElem?_set_self hl] at e
        cases e
        exact lv.elim
      · rw [List.getElem?_eq_none (by simpa using hl)] at e; cases e
    · rw [List.getElem?_set_ne (Ne.symm z)] at e
      exact .inl ⟨i, c, e, lv, q⟩
  · exact .inr h
theorem Le.dead : Le st m H (st.set n .dead) m H := ⟨⟨by simp, fun _ _ => rfl, fun a u e k => ⟨e, fun z => k (own_dead z)⟩⟩, rfl, fun _ _ => rfl⟩
theorem RSt.dead (rs : RSt W st m H) : RSt W (st.set n .dead) m H := by
  have old : ∀ {i c}, (st.set n .dead)[i]? = some c → live c → st[i]? = some c ∧ i ≠ n := fun {i c} e lv => by
    by_cases z : i = n
    · subst z
      by_cases hl : i < st.length
      · rw [List.getElem?_set_self hl] at e
        cases e
        exact lv.elim
      · rw [List.getElem?_eq_none (by simpa using hl)] at e; cases e
    · rw [List.getElem?_set_ne (Ne.symm z)] at e
      exact ⟨e, z⟩
  refine ⟨fun i c e => ?_, fun i j c1 c2 e1 e2 v1 v2 q => rs.inj i j c1 c2 (old e1 v1).1 (old e2 v2).1 v1 v2 q, rs.hid, fun i c e lv => rs.hinj i c (old e lv).1 lv⟩
  by_cases lv : live c
  · exact (rs.cell i c (old e lv).1).le Le.dead rfl
  · cases c <;> first | trivial | exact absurd trivial lv
/-- its address is nobody's -/
theorem RSt.dead_own (rs : RSt W st m H) (e : st[n]? = some c) (lv : live c) : ¬ Own (st.set n .dead) m (m n) := by
  rintro (⟨i, c', e1, v1, q⟩ | z)
  · by_cases z : i = n
    · subst z
      rw [List.getElem?_set_self (List.getElem?_eq_some_iff.mp e).1] at e1
      cases e1
      exact v1.elim
    · rw [List.getElem?_set_ne (Ne.symm z)] at e1
      exact z (rs.inj i n c' c e1 e v1 lv q)
  · exact rs.hinj n c e lv z
/-- a cell behind the cut is nobody's -/
theorem RSt.take_own (rs : RSt W st m H) {n : Nat} (e : st[n]? = some c) (lv : live c) : ¬ Own (st.take n) m (m n) := by
  rintro (⟨i, c', e1, v1, q⟩ | z)
  · rw [List.getElem?_take] at e1
    split at e1
    · rename_i h
      have := rs.inj i n c' c e1 e v1 lv q
      omega
    · cases e1
  · exact rs.hinj n c e lv z
end
section
variable {W : Wd} {nm : Nms} {T : Tab} {Φ : Phi} {X : Cx} {Wx : WX} {fa fb fc : Env → Sto → Mo PV} {fl : Env → Sto → Mo (List PV)} {a b c e : Expr} {es : List Expr} {pos pos' pos2 : Pos}
theorem p_frz {i : Nat} {x : Str} (hN : X.N[i]? = some x) (hv : visB X.env.scope x = true) (hn : nb x = true) : PE X (.Name x pos) (tM W Wx (RpV W) fun env st => match look env i with
    | some (.ref n) => (match st[n]? with
      | some (.lst xs) => ret (.lst xs) (st.set n .dead)
      | some (.dct ks vs) => ret (.dct ks vs) (st.set n .dead)
      | _ => none)
    | _ => none) :=
  PE.imp (pe_var hN (vis_of hv) (nb_of hn).1 (nb_of hn).2.1) fun σ H Q ⟨env, st, m, re, rs, s⟩ => by
    simp only at s
    cases el : look env i with
    | none => rw [el] at s; exact s.elim
    | some z =>
      rw [el] at s
      cases z <;> first | (exact s.elim) | skip
      rename_i n
      obtain ⟨v, h1, h2⟩ := re.2 i _ el
      simp only at s
      cases h2 with
      | ref hn =>
      refine ⟨_, h1, ?_⟩
      cases e : st[n]? with
      | none => rw [e] at s; exact s.elim
      | some c =>
        rw [e] at s
        cases c <;> first | (exact s.elim) | skip
        · obtain ⟨vs, e1, z, q⟩ := rs.cell n _ e
          exact s _ H m Le.dead rs.dead (.lst e1 (rs.dead_own e trivial) z (q.le Le.dead))
        · obtain ⟨kvs, e1, z, q⟩ := rs.cell n _ e
          subst z
          exact s _ H m Le.dead rs.dead (.dct e1 (rs.dead_own e trivial) (q.le Le.dead))
theorem p_mk (ok : XOk W nm T Φ X Wx) {c : Nat} (hc0 : nm.isc c = true) (hgl : glB X.env.scope (W.sym c) = true) (hn : nb (W.sym c) = true) (he : isStar e = false) (hs : es.any isStar = false) (h : PA X (e :: es) (tM W Wx (RpL W) fl)) :
    PE X (.Call (.Name (W.sym c) pos') (e :: es) [] pos) (tM W Wx (RpV W) fun env st => bnd (fl env st) fun vs st => match T.ini c with
      | some f => bnd (Φ f (.ref st.length :: vs) (st ++ [.obj c [] []])) fun r st' => match r, st'[st.length]? with
        | .non, some (.obj c' fs us) => if T.still c = true then (if PV.pus us = true ∧ cuts st st' then ret (.obj c' fs us) (st'.take st.length) else none) else ret (.ref st.length) st'
        | _, _ => none
      | none => none) := by
  obtain ⟨f, ei⟩ := ok.isc c hc0
  rw [ei]
  refine ⟨fun pins s σ H Q I ⟨env, st, m, re, rs, sm⟩ => ?_⟩
  obtain ⟨k, room, F⟩ := ok.room
  obtain ⟨hm, M⟩ := ok.cls c f ei
  refine wpAny_Call_Name_kw (ld_glob I (gl_of hgl) hm ?_ (nb_of hn).1)
  refine cw_any (first := []) (R := fun vs H1 => ∃ st1 m1 ys, RSt W st1 m1 H1 ∧ RepL W st1 m1 H1 vs ys ∧ Sem W (fun c d H => Wx c d σ H) st1 m1 H1 _ (RpV W) Q) I.ok.mod.kin M.kp he (h.run pos pins s σ H _ I (tM.step re rs sm fun vs H1 xs st1 m1 l1 re1 rs1 r1 s1 => ⟨st1, m1, xs, rs1, r1, s1⟩)) fun us s1 vs H1 I1 r ⟨st1, m1, ys, rs1, rl, sm1⟩ => ?_
  refine run_makeG (E := fun c d H => Wx c d σ H) M (F f) room (passAt ok.tk σ) I1 r fun x dx hx hdx hne => ?_
  have l1 := Le.new (W := W) (o := .own x) rs1 hdx
  have rs2 := rs1.new (o := .own x) hdx
  have hx2 : upd H1 dx (.own x) x = none := by rw [upd_ne (Ne.symm hne)]; exact hx
  have l2 := Le.cell (W := W) (c := .obj c [] []) (o := .ins (W.ca c) dx []) rs2 hx2
  have rs3 := rs2.cellNew (c := .obj c [] []) (o := .ins (W.ca c) dx []) hx2 ⟨dx, [], upd_same, rfl, .nil⟩
  have l3 := l1.trans l2
  have rx : Rep W (st1 ++ [.obj c [] []]) (m1.add st1.length x) (upd (upd H1 dx (.own x)) x (.ins (W.ca c) dx [])) (.ref ((m1.add st1.length x) st1.length)) (.ref st1.length) := .ref (by simp)
  rw [add_new] at rx
  refine ⟨_, _, .ref st1.length :: ys, rs3, .cons rx (rl.le l3), ?_⟩
  cases ep : Φ f (.ref st1.length :: ys) (st1 ++ [.obj c [] []]) with
  | none => simp only [ep, bnd_none] at sm1; exact sm1
  | some y =>
    simp only [ep] at sm1
    cases y with
    | ex c2 vs2 st2 => exact fun d H2 m2 l rs' x => sm1 d H2 m2 (l3.trans l) rs' x
    | ok r2 st2 =>
      intro b H2 m2 l rs' rb
      simp only [bnd_ok] at sm1
      have hmx : m2 st1.length = x := by rw [l.map _ (by simp), add_new]
      split at sm1
      · rename_i c' fs us2 hc
        cases rb
        refine ⟨rfl, ?_⟩
        split at sm1
        · split at sm1
          · rename_i hcut
            refine sm1 _ H2 m2 ((l3.trans l).tk hcut.2) (rs1.tk rs' hcut.2) ?_
            obtain ⟨dx2, fv, e1, e2, q⟩ := rs'.cell _ _ hc
            rw [hmx] at e1
            refine .obj e1 ?_ e2 (q.tk hcut.2.1 (PV.bes_pu _ _ hcut.1))
            rw [← hmx]
            exact rs'.take_own hc trivial
          · exact sm1.elim
        · refine sm1 _ H2 m2 (l3.trans l) rs' ?_
          have z : Rep W st2 m2 H2 (.ref (m2 st1.length)) (.ref st1.length) := .ref (List.getElem?_eq_some_iff.mp hc).1
          rw [hmx] at z
          exact z
      · exact sm1.elim
/-! builtins -/
theorem boot_len : bootBuiltins "len" = some (.builtin "len") := by decide +kernel
theorem boot_abs : bootBuiltins "abs" = some (.builtin "abs") := by decide +kernel
theorem boot_min : bootBuiltins "min" = some (.builtin "min") := by decide +kernel
theorem boot_max : bootBuiltins "max" = some (.builtin "max") := by decide +kernel
theorem boot_int : bootBuiltins "int" = some (.type "int") := by decide +kernel
theorem boot_tuple : bootBuiltins "tuple" = some (.type "tuple") := by decide +kernel
theorem boot_all : bootBuiltins "all" = some (.builtin "all") := by decide +kernel
theorem boot_any : bootBuiltins "any" = some (.builtin "any") := by decide +kernel
theorem boot_sorted : bootBuiltins "sorted" = some (.builtin "sorted") := by decide +kernel
theorem boot_isi : bootBuiltins "isinstance" = some (.builtin "isinstance") := by decide +kernel
theorem tCB_imp {bl : Blt} {t : TE} {σ : L2.St} {H : Hp} {Q : VK} (h : tM W Wx (RpV W) (fun env st => bnd (fl env st) fun xs st => lif (bltf st bl xs) st) σ H Q) : tCB (rBlt W bl) (tM W Wx (RpL W) fl) σ H Q := by
  obtain ⟨env, st, m, re, rs, s⟩ := h
  exact tM.step re rs s fun v H1 xs st1 m1 l1 re1 rs1 r1 s1 => by
    obtain ⟨z, e, k⟩ := s1.lif
    exact ⟨xs, z, st1, m1, rs1, r1, e, k⟩
theorem p_blt (ok : XOk W nm T Φ X Wx) (bl : Blt) (hg : glB X.env.scope (bltN bl) = true) (he : isStar e = false) (hs : es.any isStar = false) (h : PA X (e :: es) (tM W Wx (RpL W) fl)) :
    PE X (.Call (.Name (bltN bl) pos') (e :: es) [] pos) (tM W Wx (RpV W) fun env st => bnd (fl env st) fun xs st => lif (bltf st bl xs) st) := by
  have hpl : (backTo pos (starEach es X.env)).any (·.1) = false := by rw [back_any, hs]
  cases bl with
  | len => exact PE.imp (pe_callB (b_len ok.K) (gl_of hg) (ok.blt _ (by decide)) boot_len h (by decide) (by decide) (star_no he) hpl) fun _ _ _ => tCB_imp (t := fun _ _ _ => True)
  | abs => exact PE.imp (pe_callB b_abs (gl_of hg) (ok.blt _ (by decide)) boot_abs h (by decide) (by decide) (star_no he) hpl) fun _ _ _ => tCB_imp (t := fun _ _ _ => True)
  | min => exact PE.imp (pe_callB (b_min ok.calm) (gl_of hg) (ok.blt _ (by decide)) boot_min h (by decide) (by decide) (star_no he) hpl) fun _ _ _ => tCB_imp (t := fun _ _ _ => True)
  | max => exact PE.imp (pe_callB (b_max ok.calm) (gl_of hg) (ok.blt _ (by decide)) boot_max h (by decide) (by decide) (star_no he) hpl) fun _ _ _ => tCB_imp (t := fun _ _ _ => True)
  | int => exact PE.imp (pe_callTy b_int (gl_of hg) (ok.blt _ (by decide)) boot_int h (by decide) (by decide) (star_no he) hpl) fun _ _ _ => tCB_imp (t := fun _ _ _ => True)
  | list => exact PE.imp (pe_callTy (b_list ok.K ok.calm) (gl_of hg) (ok.blt _ (by decide)) boot_list h (by decide) (by decide) (star_no he) hpl) fun _ _ _ => tCB_imp (t := fun _ _ _ => True)
  | tuple => exact PE.imp (pe_callTy (b_tuple ok.K) (gl_of hg) (ok.blt _ (by decide)) boot_tuple h (by decide) (by decide) (star_no he) hpl) fun _ _ _ => tCB_imp (t := fun _ _ _ => True)
  | tuplei => exact PE.imp (pe_callTy (b_tuplei ok.K) (gl_of hg) (ok.blt _ (by decide)) boot_tuple h (by decide) (by decide) (star_no he) hpl) fun _ _ _ => tCB_imp (t := fun _ _ _ => True)
  | gcd => exact PE.imp (pe_callBfun b_gcd (gl_of hg) ok.gcd h (by decide) (star_no he) hpl) fun _ _ _ => tCB_imp (t := fun _ _ _ => True)
  | all => exact PE.imp (pe_callB (b_all ok.K ok.calm) (gl_of hg) (ok.blt _ (by decide)) boot_all h (by decide) (by decide) (star_no he) hpl) fun _ _ _ => tCB_imp (t := fun _ _ _ => True)
  | any => exact PE.imp (pe_callB (b_any ok.K ok.calm) (gl_of hg) (ok.blt _ (by decide)) boot_any h (by decide) (by decide) (star_no he) hpl) fun _ _ _ => tCB_imp (t := fun _ _ _ => True)
  | sorted => exact PE.imp (pe_callB (b_sorted ok.K) (gl_of hg) (ok.blt _ (by decide)) boot_sorted h (by decide) (by decide) (star_no he) hpl) fun _ _ _ => tCB_imp (t := fun _ _ _ => True)
theorem p_isi (ok : XOk W nm T Φ X Wx) (t : Ty) {p2 p3 : Pos} (hg : glB X.env.scope ("isinstance" : Str) = true) (hz : glB X.env.scope (tyN t) = true) (he : isStar e = false) (h : PE X e (tM W Wx (RpV W) fa)) :
    PE X (.Call (.Name "isinstance" p2) [e, .Name (tyN t) p3] [] pos) (tM W Wx (RpV W) fun env st => bnd (fa env st) fun x st => bnd (lif (isiP x t) st) fun b st => ret (.bl b) st) := by
  have ty : PE X (.Name (tyN t) p3) (tC (.ty (tyS t))) := by
    cases t with
    | int => exact pe_bltn (gl_of hz) (ok.blt _ (by decide)) boot_int rfl (by decide) (by decide)
    | bool => exact pe_bltn (gl_of hz) (ok.blt _ (by decide)) (by decide +kernel : bootBuiltins "bool" = some (.type "bool")) rfl (by decide) (by decide)
    | str => exact pe_bltn (gl_of hz) (ok.blt _ (by decide)) (by decide +kernel : bootBuiltins "str" = some (.type "str")) rfl (by decide) (by decide)
    | tuple => exact pe_bltn (gl_of hz) (ok.blt _ (by decide)) boot_tuple rfl (by decide) (by decide)
  refine PE.imp (pe_callB (b_isi ok.K t) (gl_of hg) (ok.blt _ (by decide)) boot_isi (pa_cons h (pa_cons ty pa_nil rfl) (star_no he)) (by decide) (by decide) (star_no he) rfl) fun σ H Q ⟨env, st, m, re, rs, s⟩ => ?_
  exact tM.step re rs s fun v H1 x st1 m1 l1 re1 rs1 r1 s1 => by
    obtain ⟨z, e, k⟩ := s1.lif_bnd
    exact ⟨v, x, z, st1, m1, rfl, rs1, r1, e, k.ret rs1 (.bl z)⟩
end
end BR
end
section
set_option Elab.async false
set_option linter.all false
set_option maxRecDepth 100000
set_option maxHeartbeats 4000000
/-! BrSndA: methods of builtins; iterators. -/
namespace PySem
open Sem (wp)
open AutoSeq1 (wpAny_loadPart')
theorem br_meets_enumT {v : Value} {o : Obj} {H : Heap → Prop} (B : Begins v o H) :
    Meets (Builtin.«enumerate.__new__» ⟨[.type "enumerate", v], []⟩) (fun _ R s => H s.heap ∧
      R (.ok (.ret (.ref (s.heap.push o).objs.size))) { s with heap := (s.heap.push o).push { cls := .type "enumerate", data := .fields #[.none, .bool false, .ref s.heap.objs.size, rawInt 0, .none, .none] } }) :=
  .of_wp fun prog w A R s h => by
    obtain ⟨hp, g, d, tk, os⟩ := s; obtain ⟨h1, h⟩ := h
    have hsub := sub_enumerate
    have q1 : ∀ {A' : Around} {E : Value → Shared → Prop} {Q : Value → Shared → Prop}, Q (.ref hp.objs.size) ⟨hp.push o, g, d, tk, os⟩ → wpAny (model prog w) A' (pyIter v) Q E ⟨hp, g, d, tk, os⟩ :=
      fun q => B.iter prog w _ _ ⟨hp, g, d, tk, os⟩ _ h1 q
    wp_walk using q1
    refine wpAny_stack_any fun st => wpAny_pure ?_
    split
    · rename_i c _ _ _ _ _
      cases (c == Value.type "enumerate")
      · wp_walk using q1
        exact ⟨_, rfl, h⟩
      · wp_walk using q1
        exact ⟨_, rfl, h⟩
    · wp_walk using q1
      exact ⟨_, rfl, h⟩
section
variable {prog : Program} {w : World} {A : Around} {E : Value → Shared → Prop} {s : Shared}
theorem br_enum_begins {v : Value} {o : Obj} {H : Heap → Prop} {Q : Value → Shared → Prop} (B : Begins v o H) (h1 : H s.heap)
    (h : ∀ h', IsEnum h' (s.heap.objs.size + 1) s.heap.objs.size 0 .none → h'.get? s.heap.objs.size = some o → h'.objs.size = s.heap.objs.size + 2 →
      (∀ b o, s.heap.get? b = some o → h'.get? b = some o) → Q (.ref (s.heap.objs.size + 1)) { s with heap := h' }) :
    wpAny (model prog w) A (call (.type "enumerate") [v]) Q E s := by
  refine callType_new F.called_enumerate (by decide) (F.typeCall_enumerate_1 _) (F.newCall_enumerate_1 _) (fun obj => F.args_object_init_2 obj _) F.entry_enumerate_new
    (br_meets_enumT B) ⟨h1, ?_⟩
  have hz : (s.heap.push o).objs.size = s.heap.objs.size + 1 := Heap.size_push ..
  show _ ∧ _
  rw [hz]
  have he : IsEnum ((s.heap.push o).push { cls := .type "enumerate", data := .fields #[.none, .bool false, .ref s.heap.objs.size, rawInt 0, .none, .none] }) (s.heap.objs.size + 1) s.heap.objs.size 0 .none := by
    have := Heap.get?_push_size (s.heap.push o) (o := { cls := .type "enumerate", data := .fields #[.none, .bool false, .ref s.heap.objs.size, rawInt 0, .none, .none] }) rfl
    rw [hz] at this; exact this
  refine ⟨⟨_, he, rfl⟩, h _ he (Heap.get?_push_of_some _ (Heap.get?_push_size _ B.free)) (by rw [Heap.size_push, hz]) fun b o x => Heap.get?_push_of_some _ (Heap.get?_push_of_some _ x)⟩
end
end PySem
namespace BR
open PySem PySem.Spec PyProof.Rows L2
/-! ### enumerate of a tuple -/
def IteT (K : PySem.W.Frag) (a : Addr) : L2.It :=
  ⟨fun i H => ∃ (xs : List V) (x : V), SqT K H a xs ∧ xs[i]? = some x, fun i H v H' => ∃ T x, v = .ref T ∧ H T = none ∧ H' = upd H T (.tup [.int (i : Nat), x]) ∧ ∀ xs, SqT K H a xs → xs[i]? = some x, fun i H => ∃ xs : List V, SqT K H a xs ∧ xs.length = i⟩
theorem turn_enumT {P : Program} {w : World} {K : PySem.W.Frag} {elts : List Expr} {kk : Nat} {tpos : Pos} (a e it : Addr) :
    Turn P w K (.Tuple elts kk tpos) (IteT K a) [e, it] e (fun i h => (∃ old, IsEnum h e it ((i : Nat) : Int) old) ∧ h.IsTupleIter it a i ∧ e ≠ it ∧ a ≠ e ∧ a ≠ it) where
  mem := by simp
  obj := fun i h st b hb => by
    obtain ⟨⟨old, he⟩, ⟨o, ho, hc, hd⟩, _⟩ := st
    have e' : b = e ∨ b = it := by simpa using hb
    rcases e' with z | z
    · rw [z]; exact ⟨_, he, fun v q => nomatch q⟩
    · rw [z]; exact ⟨o, ho, fun v q => by rw [hd] at q; cases q⟩
  keep := fun i h h' st k => let ⟨⟨old, he⟩, hi, hne⟩ := st; ⟨⟨old, k e (by simp) _ he⟩, hi.at fun o q => k it (by simp) o q, hne⟩
  item := by
    intro X hP hw hK hc i pins s σ H E I hf st hg
    subst hP hw hK
    obtain ⟨⟨old, he⟩, hit, hne, hae, hai⟩ := st
    obtain ⟨xs, x, hq, hx⟩ := hg
    obtain ⟨its, rv, p, hz⟩ := I.tuple hq
    obtain ⟨u, hu, ru⟩ := rv.get hx
    have hel : e < s.heap.objs.size := Heap.lt_size he
    have hil : it < s.heap.objs.size := by obtain ⟨_, q, _⟩ := hit; exact Heap.lt_size q
    have hi : i < its.toArray.size := by
      have := (List.getElem?_eq_some_iff.mp hu).1
      simpa using this
    refine wpAny_pyNext_enum_itemD (Draws.tuple (prog := X.prog) (w := X.w) (A := X.A.in1) (show X.A.in1.handled = none from I.ok.hd hc) it a hai its.toArray) he ⟨hit, p⟩ hi hne (by simp [hne, Ne.symm hae]) fun y h' tk hy ho hst' hT hsz hk => ?_
    obtain rfl : y = u := by
      have hy' : its[i]? = some y := by simpa using hy
      rw [hu] at hy'
      exact (Option.some.inj hy').symm
    refine ⟨_, rfl, wpAny_letOwnedTupleGo_enum (s := { s with heap := h', toks := tk + 1 }) ho fun h'' he' sb => ?_⟩
    have hT2 : h''.get? s.heap.objs.size = some { cls := .type "tuple", data := .seq #[.int i tk, y] } := (sb.2 _ (Nat.ne_of_gt hel)).trans hT
    have new : ObjOk X.prog X.w (upd H s.heap.objs.size (.tup [.int (i : Nat), x])) h'' s.heap.objs.size (.tup [.int (i : Nat), x]) :=
      ⟨by show 2 ≤ sizeLine; decide, [.int i tk, y], .cons ⟨_, rfl⟩ (.cons ru .nil), ⟨_, hT2, rfl, _, rfl⟩⟩
    have I1 : Inv X pins σ (upd H s.heap.objs.size (.tup [.int (i : Nat), x])) { s with heap := h'', toks := tk + 1 } :=
      I.turnedNew (ch := [e, it]) (fun b ob hb q => (sb.2 b (fun z => hb (by simp [z]))).trans (hk b ob (fun z => hb (by simp [z])) (fun z => hb (by simp [z])) q)) hf (Nat.le_refl _) new
    refine ⟨.ref s.heap.objs.size, _, I1, rfl, ⟨_, x, rfl, I.hok.fresh (Nat.le_refl _), rfl, fun ys hy => by rw [I.tuple_inj hy hq]; exact hx⟩, ⟨⟨y, ?_⟩, hst'.1.at fun o q => (sb.2 it (Ne.symm hne)).trans q, hne, hae, hai⟩, fun b hb => ?_⟩
    · have e1 : ((i + 1 : Nat) : Int) = (i : Int) + 1 := by omega
      rw [e1]; exact he'
    · have hb' : b < s.heap.objs.size := by
        have e' : b = e ∨ b = it := by simpa using hb
        rcases e' with z | z
        · rw [z]; exact hel
        · rw [z]; exact hil
      rw [upd_ne (Nat.ne_of_lt hb')]
      exact (hf b hb).1
  done := by
    intro X hP hw hK hc i pins s σ H E I hf st hg
    subst hP hw hK
    obtain ⟨⟨old, he⟩, hit, hne, hae, hai⟩ := st
    obtain ⟨xs, hq, hx⟩ := hg
    obtain ⟨its, rv, p, hz⟩ := I.tuple hq
    obtain ⟨f0, f1, f2, f3, f4, f5⟩ := hf it (by simp)
    have hl := rv.length
    have hn : i = its.toArray.size := by rw [List.size_toArray, ← hl, hx]
    subst hn
    exact wpAny_pyNext_enum_endD (Draws.tuple (prog := X.prog) (w := X.w) (A := X.A.in1) (show X.A.in1.handled = none from I.ok.hd hc) it a hai its.toArray) he ⟨hit, p⟩ fun h' eb => ⟨rfl, I.turned (t' := s.toks) (fun b o hb q => eb b o hb q) f0 f1 f3 f4 f5⟩
  self := fun A i s Q E st h => let ⟨⟨_, he⟩, _⟩ := st; wpAny_pyIter_enum he h
def iEnumT (K : PySem.W.Frag) (ta : TA) : TI := fun σ H R => ta σ H fun vs H1 => ∃ a xs, vs = [.ref a] ∧ SqT K H1 a xs ∧ R (IteT K a) H1
/-- of a list or a tuple -/
def iEnumA (K : PySem.W.Frag) (ta : TA) : TI := fun σ H R => ta σ H fun vs H1 => ∃ a xs, vs = [.ref a] ∧ ((SqL K H1 a xs ∧ R (Ite K a) H1) ∨ (SqT K H1 a xs ∧ R (IteT K a) H1))
theorem pi_enumA {X : Cx} {e : Expr} {ta : TA} {p pos tpos : Pos} {elts : List Expr} {kk : Nat} (hg : Gl X "enumerate") (hm : X.mg "enumerate" = none) (ha : PA X [e] ta) (hs : starEach [e] X.env = [(false, eval e X.env)]) :
    PI X (.Tuple elts kk tpos) (.Call (.Name "enumerate" p) [e] [] pos) (iEnumA X.K ta) := by
  refine ⟨fun pins s σ H R I h => ?_⟩
  refine Call_ (ld_blt I hg hm boot_enumerate (PyProof.Rows.callWith_type1 (thn (ha.run pos pins s σ H _ I h) fun us s1 ⟨vs, H1, I1, r1, q1⟩ => ?_) hs rfl))
  obtain ⟨a, xs, ex, q1⟩ := q1
  subst ex
  cases r1 with
  | cons r rr =>
    cases rr
    cases r
    have ok2 : ∀ b ∈ [s1.heap.objs.size + 1, s1.heap.objs.size], FpOk X pins H1 b := fun b hb => by
      have e' : b = s1.heap.objs.size + 1 ∨ b = s1.heap.objs.size := by simpa using hb
      have hle : s1.heap.objs.size ≤ b := by
        rcases e' with z | z
        · rw [z]; exact Nat.le_add_right _ _
        · rw [z]; exact Nat.le_refl _
      exact I1.fpOk hle (I1.hok.fresh hle)
    rcases q1 with ⟨hq, q⟩ | ⟨hq, q⟩
    · obtain ⟨its, rv, p', hz⟩ := I1.list hq
      refine call_enumerate_list p'.isList fun h' he hit hsz hk => wpAny_pyIter_enum he ?_
      have I2 : Inv X pins σ H1 { s1 with heap := h' } := I1.kept (t' := s1.toks) hk
      exact ⟨s1.heap.objs.size + 1, [s1.heap.objs.size + 1, s1.heap.objs.size], _, _, H1, rfl, I2, turn_enum a (s1.heap.objs.size + 1) s1.heap.objs.size, ⟨⟨.none, he⟩, hit, Nat.succ_ne_self _⟩, ok2, q⟩
    · obtain ⟨its, rv, p', hz⟩ := I1.tuple hq
      have hal : a < s1.heap.objs.size := by obtain ⟨o, e, _⟩ := p'; exact Heap.lt_size e
      refine br_enum_begins (begins_tuple a its.toArray) p' fun h' he hit hsz hk => wpAny_pyIter_enum he ?_
      have I2 : Inv X pins σ H1 { s1 with heap := h' } := I1.kept (t' := s1.toks) hk
      exact ⟨s1.heap.objs.size + 1, [s1.heap.objs.size + 1, s1.heap.objs.size], _, _, H1, rfl, I2, turn_enumT a (s1.heap.objs.size + 1) s1.heap.objs.size, ⟨⟨.none, he⟩, ⟨_, hit, rfl, rfl⟩, Nat.succ_ne_self _, Nat.ne_of_lt (Nat.lt_succ_of_lt hal), Nat.ne_of_lt hal⟩, ok2, q⟩
/-- a list, a tuple, a text walked -/
def iAny (K : PySem.W.Frag) (te : TE) : TI := fun σ H R => te σ H fun x H1 => (∃ a xs, x = .ref a ∧ SqL K H1 a xs ∧ R (Itl K a) H1) ∨ (∃ a xs, x = .ref a ∧ SqT K H1 a xs ∧ R (Itt K a) H1) ∨ ∃ z, x = .str z ∧ R (Its z) H1
theorem pi_any {X : Cx} {tg e : Expr} {te : TE} (he : PE X e te) : PI X tg e (iAny X.K te) := by
  refine ⟨fun pins s σ H R I h => ?_⟩
  refine thn (he.run pins s σ H _ I h) fun v s1 ⟨x, H1, I1, r1, q1⟩ => ?_
  rcases q1 with ⟨a, xs, e, hq, q⟩ | ⟨a, xs, e, hq, q⟩ | ⟨z, e, q⟩
  · subst e
    cases r1
    obtain ⟨its, rv, p, hz⟩ := I1.list hq
    refine wpAny_pyIter_list p.isList ?_
    refine ⟨s1.heap.objs.size, [s1.heap.objs.size], _, _, H1, rfl, I1.kept (t' := s1.toks) fun b o e => Heap.get?_push_of_some _ e, turn_list a _, ⟨_, Heap.get?_push_size _ rfl, rfl, rfl⟩, fun b hb => ?_, q⟩
    have e : b = s1.heap.objs.size := by simpa using hb
    subst e
    exact I1.fpOk (Nat.le_refl _) (I1.hok.fresh (Nat.le_refl _))
  · subst e
    cases r1
    obtain ⟨its, rv, p, hz⟩ := I1.tuple hq
    refine wpAny_pyIter_tuple (show s1.heap.IsTuple a its.toArray from p) ?_
    refine ⟨s1.heap.objs.size, [s1.heap.objs.size], _, _, H1, rfl, I1.kept (t' := s1.toks) fun b o e => Heap.get?_push_of_some _ e, turn_tuple a _, ⟨_, Heap.get?_push_size _ rfl, rfl, rfl⟩, fun b hb => ?_, q⟩
    have e : b = s1.heap.objs.size := by simpa using hb
    subst e
    exact I1.fpOk (Nat.le_refl _) (I1.hok.fresh (Nat.le_refl _))
  · subst e
    obtain ⟨t, rfl⟩ := r1
    cases ha : z.cps.all (· < 128)
    · exact wpAny_pyIter_wide ha (pi_one (tk := s1.toks) I1 _ (turn_str _ z t "str_iterator" (.inr rfl)) ⟨_, Heap.get?_push_size _ rfl, rfl, rfl⟩ q)
    · exact wpAny_pyIter_ascii ha (pi_one (tk := s1.toks) I1 _ (turn_str _ z t "str_ascii_iterator" (.inl rfl)) ⟨_, Heap.get?_push_size _ rfl, rfl, rfl⟩ q)

/-! ### told of the evaluator -/
/-- the iterator walks these, as long as the walked list stays -/
def Gives (W : Wd) (J : L2.It) (p : List PV × Option (Nat × List PV)) (st : Sto) (m : Mp) (H : Hp) : Prop :=
  ∀ st' m' H', Le0 st m H st' m' H' → RSt W st' m' H' → gok p.2 st' → (∀ i x, p.1[i]? = some x → J.go i H' ∧ ∀ v H2, J.yld i H' v H2 → Le st' m' H' st' m' H2 ∧ RSt W st' m' H2 ∧ Rep W st' m' H2 v x) ∧ J.stop p.1.length H'
abbrev RpI (W : Wd) : Sto → Mp → Hp → L2.It → (List PV × Option (Nat × List PV)) → Prop := fun st m H J p => Gives W J p st m H ∧ p.1.length ≤ sizeLine
theorem PI.imp {X : Cx} {tg e : Expr} {t t' : TI} (h : PI X tg e t) (k : ∀ σ H Q, t' σ H Q → t σ H Q) : PI X tg e t' := ⟨fun pins s σ H R I q => h.run pins s σ H R I (k σ H R q)⟩
section
variable {W : Wd} {nm : Nms} {T : Tab} {Φ : Phi} {X : Cx} {Wx : WX} {fa fb fc : Env → Sto → Mo PV} {fl : Env → Sto → Mo (List PV)} {a b c e : Expr} {es : List Expr} {pos pos' pos2 : Pos}
theorem p_join (ok : XOk W nm T Φ X Wx) (hsup : noSup a = true) (hp : (pos'.endLine == pos.line) = true) (he : isStar e = false) (ha : PE X a (tM W Wx (RpV W) fa)) (hb : PE X e (tM W Wx (RpV W) fb)) :
    PE X (.Call (.Attribute a "join" pos') [e] [] pos) (tM W Wx (RpV W) fun env st => bnd (fa env st) fun x st => if bmR .join x = true then bnd (fb env st) fun y st => lif (bmf st .join x y) st else none) :=
  PE.imp (pe_m1 F.slot_str_join F.type_str_join (m_join ok.K) ha hb (star_no he) (abase hsup) hp) fun σ H Q ⟨env, st, m, re, rs, s⟩ =>
    tM.step re rs s fun v H1 x st1 m1 l1 re1 rs1 r1 s1 => by
      split at s1
      · rename_i hr
        cases x <;> first | (exfalso; simp [bmR] at hr; done) | skip
        obtain ⟨rfl, _⟩ := r1.str_inv
        exact ⟨⟨_, rfl⟩, tM.step re1 rs1 s1 fun u H2 y st2 m2 l2 re2 rs2 r2 s2 => by
          obtain ⟨z, e, k⟩ := s2.lif
          exact ⟨u, _, y, z, st2, m2, rfl, rs2, r1.le l2, r2, e, k⟩⟩
      · exact s1.elim
theorem p_split (ok : XOk W nm T Φ X Wx) (hsup : noSup a = true) (hp : (pos'.endLine == pos.line) = true) (he : isStar e = false) (ha : PE X a (tM W Wx (RpV W) fa)) (hb : PE X e (tM W Wx (RpV W) fb)) :
    PE X (.Call (.Attribute a "split" pos') [e] [] pos) (tM W Wx (RpV W) fun env st => bnd (fa env st) fun x st => if bmR .split x = true then bnd (fb env st) fun y st => lif (bmf st .split x y) st else none) :=
  PE.imp (pe_m1 F.slot_str_split F.type_str_split (m_split (W := W)) ha hb (star_no he) (abase hsup) hp) fun σ H Q ⟨env, st, m, re, rs, s⟩ =>
    tM.step re rs s fun v H1 x st1 m1 l1 re1 rs1 r1 s1 => by
      split at s1
      · rename_i hr
        cases x <;> first | (exfalso; simp [bmR] at hr; done) | skip
        obtain ⟨rfl, _⟩ := r1.str_inv
        exact ⟨⟨_, rfl⟩, tM.step re1 rs1 s1 fun u H2 y st2 m2 l2 re2 rs2 r2 s2 => by
          obtain ⟨z, e, k⟩ := s2.lif
          exact ⟨u, _, y, z, st2, m2, rfl, rs2, r1.le l2, r2, e, k⟩⟩
      · exact s1.elim
theorem p_index (ok : XOk W nm T Φ X Wx) (hsup : noSup a = true) (hp : (pos'.endLine == pos.line) = true) (he : isStar e = false) (ha : PE X a (tM W Wx (RpV W) fa)) (hb : PE X e (tM W Wx (RpV W) fb)) :
    PE X (.Call (.Attribute a "index" pos') [e] [] pos) (tM W Wx (RpV W) fun env st => bnd (fa env st) fun x st => if bmR .index x = true then bnd (fb env st) fun y st => lif (bmf st .index x y) st else none) := by
  refine ⟨fun pins s σ H Q I ⟨env, st, m, re, rs, sm⟩ => ?_⟩
  refine PySem.Call_method1 (abase hsup) (star_no he) hp (thn (ha.run pins s σ H (fun v H1 => ∃ x st1 m1, REnv W st1 m1 H1 σ env ∧ RSt W st1 m1 H1 ∧ Rep W st1 m1 H1 v x ∧ Sem W (fun c d H => Wx c d σ H) st1 m1 H1 _ (RpV W) Q) I (tM.step re rs sm fun v H1 x st1 m1 l1 re1 rs1 r1 s1 => ⟨x, st1, m1, re1, rs1, r1, s1⟩)) fun u s1 ⟨v, H1, I1, rv, x, st1, m1, re1, rs1, r1, sm1⟩ => ?_)
  split at sm1
  · rename_i hr
    cases x <;> first | (exfalso; simp [bmR] at hr; done) | skip
    rename_i xs
    cases r1 with
    | tpd e1 d n z q =>
      rename_i p o vs
      cases (show u = Value.ref p from rv)
      obtain ⟨g1, _, its, _, ht⟩ := (show ObjOk X.prog X.w H1 s1.heap p (.frz o (.tup vs)) from I1.hok p _ e1)
      obtain ⟨o', g2, c2, n2, d2⟩ := ht
      have ho : o' = o := by rw [g1] at g2; exact (Option.some.inj g2).symm
      subst ho
      refine ⟨"tuple", _, F.plainAttrs_tuple, F.slot_tuple_index, F.type_tuple_index, ⟨_, g1, c2⟩, (fun a ea => by cases ea; exact ⟨_, g1, d⟩), Calls.callWith_builtin rfl (Calls.evalArgs_plain (Calls.spliced_cons ?_))⟩
      refine thn (hb.run pins s1 σ H1 _ I1 (tM.step re1 rs1 sm1 fun u H2 y st2 m2 l2 re2 rs2 r2 s2 => (show ∃ y st2 m2, RSt W st2 m2 H2 ∧ Rep W st2 m2 H2 u y ∧ Rep W st2 m2 H2 (.ref p) (.tpd xs) ∧ Sem W _ st2 m2 H2 _ (RpV W) Q from ⟨y, st2, m2, rs2, r2, (Rep.tpd e1 d n z q).le l2, s2⟩))) fun u2 s2 ⟨w, H2, I2, rw2, y, st2, m2, rs2, r2, r3, sm2⟩ => Calls.spliced_nil ?_
      obtain ⟨z, e, k⟩ := sm2.lif
      exact m_index ok.K pins s2 σ H2 (.ref p) [w] _ [u2] Q I2 rfl (.cons rw2 .nil) ⟨w, _, y, z, st2, m2, rfl, rs2, r3, r2, e, k⟩
  · exact sm1.elim
end
end BR
end
section
set_option Elab.async false
set_option linter.all false
set_option maxRecDepth 100000
set_option maxHeartbeats 4000000
/-! BrSndB: what is walked. -/
namespace BR
open PySem PySem.Spec PyProof.Rows L2
section
variable {W : Wd} {st : Sto} {m : Mp} {H : Hp} {xs ys : List PV} {g : Option (Nat × List PV)} {a b : Addr}
theorem RepL.at {vs : List V} {i : Nat} {x : PV} {v : V} (q : RepL W st m H vs xs) (hx : xs[i]? = some x) (hv : vs[i]? = some v) : Rep W st m H v x := by
  obtain ⟨u, e, r⟩ := q.get hx
  rw [hv] at e
  cases e
  exact r
theorem gives_lst (h : ∀ st' m' H', Le0 st m H st' m' H' → RSt W st' m' H' → gok g st' → ∃ vs, SqL W.K H' a vs ∧ RepL W st' m' H' vs xs) : Gives W (Itl W.K a) (xs, g) st m H := fun st' m' H' l rs hg => by
  obtain ⟨vs, sq, q⟩ := h st' m' H' l rs hg
  refine ⟨fun i x hx => ?_, ⟨vs, sq, by rw [q.length]; exact Nat.le_refl _⟩⟩
  obtain ⟨u, hu, _⟩ := q.get hx
  refine ⟨⟨vs, u, sq, hu⟩, fun v H2 y => ?_⟩
  obtain ⟨rfl, y⟩ := y
  exact ⟨Le.refl, rs, q.at hx (y vs sq)⟩
theorem gives_tup (h : ∀ st' m' H', Le0 st m H st' m' H' → RSt W st' m' H' → gok g st' → ∃ vs, SqT W.K H' a vs ∧ RepL W st' m' H' vs xs) : Gives W (Itt W.K a) (xs, g) st m H := fun st' m' H' l rs hg => by
  obtain ⟨vs, sq, q⟩ := h st' m' H' l rs hg
  refine ⟨fun i x hx => ?_, ⟨vs, sq, by rw [q.length]; exact Nat.le_refl _⟩⟩
  obtain ⟨u, hu, _⟩ := q.get hx
  refine ⟨⟨vs, u, sq, hu⟩, fun v H2 y => ?_⟩
  obtain ⟨rfl, y⟩ := y
  exact ⟨Le.refl, rs, q.at hx (y vs sq)⟩
theorem enm_at {i : Nat} {y : PV} (h : (enmP xs)[i]? = some y) : ∃ x, xs[i]? = some x ∧ y = .tup [.int i, x] := by
  unfold enmP at h
  rw [List.getElem?_map, Option.map_eq_some_iff] at h
  obtain ⟨⟨x, j⟩, h1, rfl⟩ := h
  rw [List.getElem?_zipIdx, Option.map_eq_some_iff] at h1
  obtain ⟨x', h2, e⟩ := h1
  cases e
  exact ⟨_, h2, by simp⟩
theorem enm_length : (enmP xs).length = xs.length := by simp [enmP]
theorem pair_new {u v : V} {x y : PV} {p : Addr} (rs : RSt W st m H) (hp : H p = none) (r1 : Rep W st m H u x) (r2 : Rep W st m H v y) :
    Le st m H st m (upd H p (.tup [u, v])) ∧ RSt W st m (upd H p (.tup [u, v])) ∧ Rep W st m (upd H p (.tup [u, v])) (.ref p) (.tup [x, y]) :=
  ⟨Le.new rs hp, rs.new hp, .tup upd_same (rs.nown hp) (show 2 ≤ sizeLine by rw [sizeLine_eq]; decide) (.cons (r1.le (Le.new rs hp)) (.cons (r2.le (Le.new rs hp)) .nil))⟩
theorem gives_enm (h : ∀ st' m' H', Le0 st m H st' m' H' → RSt W st' m' H' → gok g st' → ∃ vs, SqL W.K H' a vs ∧ RepL W st' m' H' vs xs) : Gives W (Ite W.K a) (enmP xs, g) st m H := fun st' m' H' l rs hg => by
  obtain ⟨vs, sq, q⟩ := h st' m' H' l rs hg
  refine ⟨fun i x hx => ?_, ⟨vs, sq, by simp only [enm_length]; rw [q.length]; exact Nat.le_refl _⟩⟩
  obtain ⟨x, hx', rfl⟩ := enm_at hx
  obtain ⟨u, hu, _⟩ := q.get hx'
  refine ⟨⟨vs, u, sq, hu⟩, fun v H2 y => ?_⟩
  obtain ⟨t, z, rfl, ht, rfl, y⟩ := y
  exact pair_new rs ht (.int _) (q.at hx' (y vs sq))
theorem gives_enmT (h : ∀ st' m' H', Le0 st m H st' m' H' → RSt W st' m' H' → gok g st' → ∃ vs, SqT W.K H' a vs ∧ RepL W st' m' H' vs xs) : Gives W (IteT W.K a) (enmP xs, g) st m H := fun st' m' H' l rs hg => by
  obtain ⟨vs, sq, q⟩ := h st' m' H' l rs hg
  refine ⟨fun i x hx => ?_, ⟨vs, sq, by simp only [enm_length]; rw [q.length]⟩⟩
  obtain ⟨x, hx', rfl⟩ := enm_at hx
  obtain ⟨u, hu, _⟩ := q.get hx'
  refine ⟨⟨vs, u, sq, hu⟩, fun v H2 y => ?_⟩
  obtain ⟨t, z, rfl, ht, rfl, y⟩ := y
  exact pair_new rs ht (.int _) (q.at hx' (y vs sq))
theorem zip_at {i : Nat} {z : PV} (h : (zipP xs ys)[i]? = some z) : ∃ x y, xs[i]? = some x ∧ ys[i]? = some y ∧ z = .tup [x, y] := by
  unfold zipP at h
  rw [List.getElem?_map, Option.map_eq_some_iff] at h
  obtain ⟨⟨x, y⟩, h1, rfl⟩ := h
  rw [List.getElem?_zip_eq_some] at h1
  exact ⟨x, y, h1.1, h1.2, rfl⟩
theorem zip_length : (zipP xs ys).length = min xs.length ys.length := by simp [zipP]
theorem gives_zip (h : ∀ st' m' H', Le0 st m H st' m' H' → RSt W st' m' H' → (∃ vs, SqT W.K H' a vs ∧ RepL W st' m' H' vs xs) ∧ ∃ vs, SqT W.K H' b vs ∧ RepL W st' m' H' vs ys) : Gives W (RZ.ItzT W.K a b) (zipP xs ys, none) st m H := fun st' m' H' l rs hg => by
  obtain ⟨⟨vs, sq, q⟩, ws, sq2, q2⟩ := h st' m' H' l rs
  refine ⟨fun i x hx => ?_, ⟨vs, ws, sq, sq2, ?_⟩⟩
  · obtain ⟨x, y, hx', hy, rfl⟩ := zip_at hx
    obtain ⟨u, hu, _⟩ := q.get hx'
    obtain ⟨u2, hu2, _⟩ := q2.get hy
    refine ⟨⟨vs, ws, u, u2, sq, sq2, hu, hu2⟩, fun v H2 y => ?_⟩
    obtain ⟨t, z, z2, rfl, ht, rfl, y1, y2⟩ := y
    exact pair_new rs ht (q.at hx' (y1 vs sq)) (q2.at hy (y2 ws sq2))
  · simp only [zip_length]
    rw [q.length, q2.length]
    omega
theorem rng_at {lo hi : Int} {i : Nat} {x : PV} (h : (rngP lo hi)[i]? = some x) : x = .int (lo + i) ∧ i < (hi - lo).toNat := by
  unfold rngP at h
  rw [List.getElem?_map, Option.map_eq_some_iff] at h
  obtain ⟨j, h1, rfl⟩ := h
  have h2 := (List.getElem?_eq_some_iff.mp h1).1
  rw [List.getElem?_range (by simpa using h2)] at h1
  cases h1
  exact ⟨rfl, by simpa using h2⟩
theorem rng_length {lo hi : Int} : (rngP lo hi).length = (hi - lo).toNat := by simp [rngP]
theorem gives_rng {lo hi : Int} : Gives W (Itr lo (hi - lo).toNat) (rngP lo hi, none) st m H := fun st' m' H' l rs hg => by
  refine ⟨fun i x hx => ?_, by simp only [rng_length]; exact Nat.le_refl _⟩
  obtain ⟨rfl, hi⟩ := rng_at hx
  refine ⟨hi, fun v H2 y => ?_⟩
  obtain ⟨rfl, rfl⟩ := y
  exact ⟨Le.refl, rs, .int _⟩
theorem gives_rev {n : Int} : Gives W (Itc (0 + ((((n - 0).toNat : Nat)) : Int) - 1) (-1) (n - 0).toNat) ((rngP 0 n).reverse, none) st m H := fun st' m' H' l rs hg => by
  refine ⟨fun i x hx => ?_, ?_⟩
  · have hl : i < ((rngP 0 n).reverse).length := (List.getElem?_eq_some_iff.mp hx).1
    rw [List.length_reverse, rng_length] at hl
    rw [List.getElem?_reverse (by rw [rng_length]; exact hl)] at hx
    obtain ⟨rfl, h⟩ := rng_at hx
    refine ⟨hl, fun v H2 y => ?_⟩
    obtain ⟨rfl, rfl⟩ := y
    rw [rng_length]
    have e : (0 : Int) + (((n - 0).toNat - 1 - i : Nat) : Int) = 0 + (((n - 0).toNat : Nat) : Int) - 1 + (i : Int) * (-1) := by omega
    rw [e]
    exact ⟨Le.refl, rs, .int _⟩
  · show _ ≤ _
    simp only [List.length_reverse, rng_length]
    exact Nat.le_refl _
theorem gives_str {z : Str} : Gives W (Its z) (z.cps.toList.map fun c => .str ⟨#[c]⟩, none) st m H := fun st' m' H' l rs hg => by
  refine ⟨fun i x hx => ?_, ?_⟩
  · rw [List.getElem?_map, Option.map_eq_some_iff] at hx
    obtain ⟨c, hc, rfl⟩ := hx
    have hc' : z.cps[i]? = some c := by simpa using hc
    refine ⟨(Array.getElem?_eq_some_iff.mp hc').1, fun v H2 y => ?_⟩
    obtain ⟨rfl, d, hd, rfl⟩ := y
    rw [hc'] at hd
    cases hd
    exact ⟨Le.refl, rs, .str (show 1 ≤ sizeLine by rw [sizeLine_eq]; decide)⟩
  · show _ ≤ _
    simp
end
section
variable {W : Wd} {nm : Nms} {T : Tab} {Φ : Phi} {X : Cx} {Wx : WX} {fa fb fc : Env → Sto → Mo PV} {fl : Env → Sto → Mo (List PV)} {a b c e tg : Expr} {es : List Expr} {pos pos' pos2 : Pos}
theorem keep_lst {st : Sto} {m : Mp} {H : Hp} {v : V} {x : PV} {xs : List PV} {g : Option (Nat × List PV)} (r : Rep W st m H v x) (hl : ∀ st', gok g st' → lstOf st' x = some xs) {p : Addr} (hv : v = .ref p) :
    ∀ st' m' H', Le0 st m H st' m' H' → RSt W st' m' H' → gok g st' → ∃ vs, SqL W.K H' p vs ∧ RepL W st' m' H' vs xs := fun st' m' H' l rs hg => by
  subst hv
  obtain ⟨a', vs, e, sq, q, _⟩ := (r.le0 l).lstO rs (hl st' hg)
  cases e
  exact ⟨vs, sq, q⟩
theorem tup_any {st : Sto} {m : Mp} {H : Hp} {v : V} {x : PV} {xs : List PV} (r : Rep W st m H v x) (hx : x = .tup xs ∨ x = .tpd xs) : ∃ a vs, v = .ref a ∧ SqT W.K H a vs ∧ RepL W st m H vs xs ∧ xs.length ≤ sizeLine := by
  rcases hx with rfl | rfl
  · obtain ⟨a, vs, e, sq, q, z⟩ := r.tup_inv
    exact ⟨a, vs, e, sq, q, z⟩
  · cases r with
    | tpd e d n z q => exact ⟨_, _, rfl, .inl (.inr ⟨_, e⟩), q, z⟩
theorem keep_tup {st : Sto} {m : Mp} {H : Hp} {v : V} {x : PV} {xs : List PV} {g : Option (Nat × List PV)} (r : Rep W st m H v x) (hx : x = .tup xs ∨ x = .tpd xs) {p : Addr} (hv : v = .ref p) :
    ∀ st' m' H', Le0 st m H st' m' H' → RSt W st' m' H' → gok g st' → ∃ vs, SqT W.K H' p vs ∧ RepL W st' m' H' vs xs := fun st' m' H' l rs hg => by
  subst hv
  obtain ⟨a', vs, e, sq, q, _⟩ := tup_any (r.le0 l) hx
  cases e
  exact ⟨vs, sq, q⟩
theorem walked_cases {st : Sto} {x : PV} {p : List PV × Option (Nat × List PV)} (h : walked st x = some p) : (∃ z, x = .str z ∧ p = (z.cps.toList.map fun c => .str ⟨#[c]⟩, none)) ∨ (∃ xs, (x = .tup xs ∨ x = .tpd xs) ∧ p = (xs, none)) ∨
    ∃ xs, p.1 = xs ∧ lstOf st x = some xs ∧ ∀ st', gok p.2 st' → lstOf st' x = some xs := by
  cases x <;> first | (cases h; done) | skip
  · cases h; exact .inl ⟨_, rfl, rfl⟩
  · cases h; exact .inr (.inl ⟨_, .inl rfl, rfl⟩)
  · cases h; exact .inr (.inr ⟨_, rfl, rfl, fun _ _ => rfl⟩)
  · cases h; exact .inr (.inr ⟨_, rfl, rfl, fun _ _ => rfl⟩)
  · cases h; exact .inr (.inl ⟨_, .inr rfl, rfl⟩)
  · rename_i n
    simp only [walked] at h
    cases e : st[n]? with
    | none => rw [e] at h; cases h
    | some c =>
      rw [e] at h
      cases c <;> first | (cases h; done) | skip
      cases h
      refine .inr (.inr ⟨_, rfl, by simp only [lstOf, e], fun st' hg => ?_⟩)
      obtain ⟨c, h1, h2⟩ := hg
      subst h2
      simp only [lstOf, h1]
theorem i_seq (ok : XOk W nm T Φ X Wx) (h : PE X e (tM W Wx (RpV W) fa)) : PI X tg e (tM W Wx (RpI W) fun env st => bnd (fa env st) fun x st => lif (walked st x) st) :=
  PI.imp (pi_any h) fun σ H Q ⟨env, st, m, re, rs, s⟩ =>
    tM.step re rs s fun v H1 x st1 m1 l1 re1 rs1 r1 s1 => by
      obtain ⟨p, e, k⟩ := s1.lif
      rw [ok.K]
      rcases walked_cases e with ⟨z, rfl, rfl⟩ | ⟨xs, hx, rfl⟩ | ⟨xs, h1, h2, h3⟩
      · obtain ⟨rfl, hz⟩ := r1.str_inv
        exact .inr (.inr ⟨z, rfl, k _ H1 m1 Le.refl rs1 ⟨gives_str, by simp only [List.length_map, Array.length_toList]; exact hz⟩⟩)
      · obtain ⟨p, vs, hv, sq, q, hz⟩ := tup_any r1 hx
        exact .inr (.inl ⟨p, vs, hv, sq, k _ H1 m1 Le.refl rs1 ⟨gives_tup (keep_tup r1 hx hv), hz⟩⟩)
      · obtain ⟨a, vs, hv, sq, q, hz⟩ := r1.lstO rs1 h2
        refine .inl ⟨a, vs, hv, sq, k _ H1 m1 Le.refl rs1 ?_⟩
        obtain ⟨p1, p2⟩ := p
        cases h1
        exact ⟨gives_lst (keep_lst r1 h3 hv), hz⟩
theorem i_rng1 (ok : XOk W nm T Φ X Wx) (hg : glB X.env.scope ("range" : Str) = true) (he : isStar e = false) (h : PE X e (tM W Wx (RpV W) fa)) :
    PI X tg (.Call (.Name "range" pos') [e] [] pos) (tM W Wx (RpI W) fun env st => bnd (fa env st) fun x st => match x with
      | .int n => if -1000000 ≤ n ∧ n ≤ 1000000 then ret (rngP 0 n, none) st else none
      | _ => none) := by
  refine PI.imp (pi_range1 (gl_of hg) (ok.blt _ (by decide)) (pa_cons h pa_nil (star_no he)) (star_no he)) fun σ H Q ⟨env, st, m, re, rs, s⟩ => ?_
  exact tM.step re rs s fun v H1 x st1 m1 l1 re1 rs1 r1 s1 => by
    cases x <;> first | (exact s1.elim) | skip
    rename_i n
    cases r1
    simp only at s1
    split at s1
    · rename_i hn
      have z := gives_rng (W := W) (st := st1) (m := m1) (H := H1) (lo := 0) (hi := n)
      rw [Int.sub_zero] at z
      exact ⟨n, rfl, by omega, by omega, s1 _ H1 m1 Le.refl rs1 ⟨z, by simp only [rng_length]; rw [sizeLine_eq]; omega⟩⟩
    · exact s1.elim
theorem i_rng2 (ok : XOk W nm T Φ X Wx) (hg : glB X.env.scope ("range" : Str) = true) (ha : isStar a = false) (hb : isStar b = false) (h : PE X a (tM W Wx (RpV W) fa)) (h2 : PE X b (tM W Wx (RpV W) fb)) :
    PI X tg (.Call (.Name "range" pos') [a, b] [] pos) (tM W Wx (RpI W) fun env st => bnd (fa env st) fun x st => bnd (fb env st) fun y st => match x, y with
      | .int i, .int j => if -1000000 ≤ i ∧ i ≤ 1000000 ∧ -1000000 ≤ j ∧ j ≤ 1000000 then ret (rngP i j, none) st else none
      | _, _ => none) := by
  refine PI.imp (pi_range2 (gl_of hg) (ok.blt _ (by decide)) (pa_cons h (pa_cons h2 pa_nil (star_no hb)) (star_no ha)) (by rw [star_no ha, star_no hb]; rfl) (by rw [star_no hb]; rfl)) fun σ H Q ⟨env, st, m, re, rs, s⟩ => ?_
  exact tM.step re rs s fun v H1 x st1 m1 l1 re1 rs1 r1 s1 => tM.step re1 rs1 s1 fun u H2 y st2 m2 l2 re2 rs2 r2 s2 => by
    cases x <;> cases y <;> first | (exact s2.elim) | skip
    cases r1; cases r2
    simp only at s2
    split at s2
    · rename_i hn
      exact ⟨_, _, rfl, ⟨by omega, by omega, by omega, by omega⟩, s2 _ H2 m2 Le.refl rs2 ⟨gives_rng, by simp only [rng_length]; rw [sizeLine_eq]; omega⟩⟩
    · exact s2.elim
theorem i_revr (ok : XOk W nm T Φ X Wx) {p3 p4 : Pos} (hg : glB X.env.scope ("reversed" : Str) = true) (hg2 : glB X.env.scope ("range" : Str) = true) (he : isStar e = false) (h : PE X e (tM W Wx (RpV W) fa)) :
    PI X tg (.Call (.Name "reversed" pos') [.Call (.Name "range" p3) [e] [] p4] [] pos) (tM W Wx (RpI W) fun env st => bnd (fa env st) fun x st => match x with
      | .int n => if -1000000 ≤ n ∧ n ≤ 1000000 then ret ((rngP 0 n).reverse, none) st else none
      | _ => none) := by
  refine PI.imp (pi_revR (gl_of hg) (ok.blt _ (by decide)) (prg_1 (gl_of hg2) (ok.blt _ (by decide)) h (star_no he)) rfl) fun σ H Q ⟨env, st, m, re, rs, s⟩ => ?_
  exact tM.step re rs s fun v H1 x st1 m1 l1 re1 rs1 r1 s1 => by
    cases x <;> first | (exact s1.elim) | skip
    rename_i n
    cases r1
    simp only at s1
    split at s1
    · rename_i hn
      exact ⟨n, rfl, by omega, by omega, by omega, by omega, s1 _ H1 m1 Le.refl rs1 ⟨gives_rev, by simp only [List.length_reverse, rng_length]; rw [sizeLine_eq]; omega⟩⟩
    · exact s1.elim
theorem i_enm (ok : XOk W nm T Φ X Wx) {elts : List Expr} {kk : Nat} {tpos : Pos} (hg : glB X.env.scope ("enumerate" : Str) = true) (he : isStar e = false) (h : PE X e (tM W Wx (RpV W) fa)) :
    PI X (.Tuple elts kk tpos) (.Call (.Name "enumerate" pos') [e] [] pos) (tM W Wx (RpI W) fun env st => bnd (fa env st) fun x st => match x with
      | .tup xs => ret (enmP xs, none) st
      | .tpd xs => ret (enmP xs, none) st
      | .lst xs => ret (enmP xs, none) st
      | .arg xs => ret (enmP xs, none) st
      | _ => none) := by
  refine PI.imp (pi_enumA (gl_of hg) (ok.blt _ (by decide)) (pa_cons h pa_nil (star_no he)) (star_no he)) fun σ H Q ⟨env, st, m, re, rs, s⟩ => ?_
  exact tM.step re rs s fun v H1 x st1 m1 l1 re1 rs1 r1 s1 => by
    rw [ok.K]
    cases x <;> first | (exact s1.elim) | skip
    · obtain ⟨p, vs, hv, sq, q, hz⟩ := tup_any r1 (.inl rfl)
      exact ⟨p, vs, by rw [hv], .inr ⟨sq, s1 _ H1 m1 Le.refl rs1 ⟨gives_enmT (keep_tup r1 (.inl rfl) hv), by simp only [enm_length]; exact hz⟩⟩⟩
    · obtain ⟨p, vs, hv, sq, q, hz⟩ := r1.lstO rs1 rfl
      exact ⟨p, vs, by rw [hv], .inl ⟨sq, s1 _ H1 m1 Le.refl rs1 ⟨gives_enm (keep_lst r1 (fun _ _ => rfl) hv), by simp only [enm_length]; exact hz⟩⟩⟩
    · obtain ⟨p, vs, hv, sq, q, hz⟩ := r1.lstO rs1 rfl
      exact ⟨p, vs, by rw [hv], .inl ⟨sq, s1 _ H1 m1 Le.refl rs1 ⟨gives_enm (keep_lst r1 (fun _ _ => rfl) hv), by simp only [enm_length]; exact hz⟩⟩⟩
    · obtain ⟨p, vs, hv, sq, q, hz⟩ := tup_any r1 (.inr rfl)
      exact ⟨p, vs, by rw [hv], .inr ⟨sq, s1 _ H1 m1 Le.refl rs1 ⟨gives_enmT (keep_tup r1 (.inr rfl) hv), by simp only [enm_length]; exact hz⟩⟩⟩
theorem i_zip (ok : XOk W nm T Φ X Wx) {elts : List Expr} {kk : Nat} {tpos : Pos} (hg : glB X.env.scope ("zip" : Str) = true) (ha : isStar a = false) (hb : isStar b = false) (h : PE X a (tM W Wx (RpV W) fa)) (h2 : PE X b (tM W Wx (RpV W) fb)) :
    PI X (.Tuple elts kk tpos) (.Call (.Name "zip" pos') [a, b] [] pos) (tM W Wx (RpI W) fun env st => bnd (fa env st) fun x st => bnd (fb env st) fun y st => match x, y with
      | .tup xs, .tup ys => ret (zipP xs ys, none) st
      | _, _ => none) := by
  refine PI.imp (RZ.pi_zipA (gl_of hg) (ok.blt _ (by decide)) (pa_cons h (pa_cons h2 pa_nil (star_no hb)) (star_no ha)) (star_no ha) (by rw [star_no hb]; rfl)) fun σ H Q ⟨env, st, m, re, rs, s⟩ => ?_
  exact tM.step re rs s fun v H1 x st1 m1 l1 re1 rs1 r1 s1 => tM.step re1 rs1 s1 fun u H2 y st2 m2 l2 re2 rs2 r2 s2 => by
    rw [ok.K]
    cases x <;> first | (exact s2.elim) | skip
    cases y <;> first | (exact s2.elim) | skip
    obtain ⟨p, vs, hv, sq, q, hz⟩ := tup_any (r1.le l2) (.inl rfl)
    obtain ⟨p2, vs2, hv2, sq2, q2, _⟩ := tup_any r2 (.inl rfl)
    exact ⟨p, p2, vs, vs2, by rw [hv, hv2], .inr ⟨sq, sq2, s2 _ H2 m2 Le.refl rs2 ⟨gives_zip fun st' m' H' l rs => ⟨keep_tup (g := none) (r1.le l2) (.inl rfl) hv st' m' H' l rs trivial, keep_tup (g := none) r2 (.inl rfl) hv2 st' m' H' l rs trivial⟩, by simp only [zip_length]; omega⟩⟩⟩
end
end BR
end
section
set_option Elab.async false
set_option linter.all false
set_option maxRecDepth 100000
set_option maxHeartbeats 4000000
/-! BrSndC: targets; comprehensions. -/
namespace BR
open PySem PySem.Spec PyProof.Rows L2
/-! ### slots -/
theorem look_set : ∀ (env : Env) (i : Nat) (x : Option PV) (j : Nat) (y : PV), look (env.set i x) j = some y → (j = i ∧ i < env.length ∧ x = some y) ∨ (j ≠ i ∧ look env j = some y)
  | [], i, x, j, y, h => by simp [look] at h
  | e :: r, 0, x, 0, y, h => by simp only [List.set_cons_zero, look] at h; exact .inl ⟨rfl, by simp, h⟩
  | e :: r, 0, x, j + 1, y, h => by simp only [List.set_cons_zero, look] at h; exact .inr ⟨by simp, h⟩
  | e :: r, i + 1, x, 0, y, h => by simp only [List.set_cons_succ, look] at h; exact .inr ⟨by simp, h⟩
  | e :: r, i + 1, x, j + 1, y, h => by
    simp only [List.set_cons_succ, look] at h
    rcases look_set r i x j y h with ⟨h1, h2, h3⟩ | ⟨h1, h2⟩
    · exact .inl ⟨by omega, by simpa using h2, h3⟩
    · exact .inr ⟨by omega, h2⟩
theorem wipeE_length (env : Env) : ∀ is, (wipeE env is).length = env.length
  | [] => rfl
  | i :: is => by simp only [wipeE, List.length_set, wipeE_length env is]
theorem look_wipe (env : Env) : ∀ (is : List Nat) (j : Nat) (y : PV), look (wipeE env is) j = some y → look env j = some y ∧ j ∉ is
  | [], j, y, h => ⟨h, by simp⟩
  | i :: is, j, y, h => by
    simp only [wipeE] at h
    rcases look_set _ i none j y h with ⟨_, _, h3⟩ | ⟨h1, h2⟩
    · cases h3
    · obtain ⟨h3, h4⟩ := look_wipe env is j y h2
      exact ⟨h3, by simp [h1, h4]⟩
theorem wipe_get {σ : L2.St} {j : Nat} : ∀ {vs : List Nat}, j ∉ vs → (wipe σ vs)[j]? = σ[j]?
  | [], _ => rfl
  | v :: vs, h => by
    simp only [List.mem_cons, not_or] at h
    show ((wipe σ vs).set v none)[j]? = _
    rw [List.getElem?_set_ne (Ne.symm h.1), wipe_get h.2]
theorem wipe_set (σ : L2.St) (i : Nat) (x : Option V) : ∀ vs : List Nat, (i ∈ vs → wipe (σ.set i x) vs = wipe σ vs) ∧ (wipe (σ.set i x) vs = wipe σ vs ∨ wipe (σ.set i x) vs = (wipe σ vs).set i x)
  | [] => ⟨by simp, .inr rfl⟩
  | v :: vs => by
    obtain ⟨h1, h2⟩ := wipe_set σ i x vs
    show (_ → (wipe (σ.set i x) vs).set v none = (wipe σ vs).set v none) ∧ ((wipe (σ.set i x) vs).set v none = (wipe σ vs).set v none ∨ (wipe (σ.set i x) vs).set v none = ((wipe σ vs).set v none).set i x)
    rcases h2 with h2 | h2
    · rw [h2]; exact ⟨fun _ => rfl, .inl rfl⟩
    · rw [h2]
      by_cases hv : i = v
      · subst hv
        rw [List.set_set]
        exact ⟨fun _ => rfl, .inl rfl⟩
      · refine ⟨fun hm => ?_, .inr ?_⟩
        · have hm' : i ∈ vs := by
            rcases List.mem_cons.mp hm with e | e
            · exact absurd e hv
            · exact e
          rw [← h2, h1 hm']
        · rw [List.set_comm _ _ hv]
section
variable {W : Wd} {st : Sto} {m : Mp} {H : Hp} {σ : L2.St} {env : Env} {v : V} {x : PV}
theorem REnv.set (re : REnv W st m H σ env) (r : Rep W st m H v x) (i : Nat) : REnv W st m H (σ.set i (some v)) (env.set i (some x)) := by
  refine ⟨by simp [re.1], fun j y h => ?_⟩
  rcases look_set env i (some x) j y h with ⟨rfl, h2, h3⟩ | ⟨h1, h2⟩
  · cases h3
    exact ⟨v, by rw [List.getElem?_set_self (by rw [re.1]; exact h2)], r⟩
  · obtain ⟨u, h3, h4⟩ := re.2 j y h2
    exact ⟨u, by rw [List.getElem?_set_ne (Ne.symm h1)]; exact h3, h4⟩
theorem REnv.wipe (re : REnv W st m H σ env) (is : List Nat) : REnv W st m H (L2.wipe σ is) (wipeE env is) := by
  refine ⟨by rw [wipe_length, wipeE_length, re.1], fun j y h => ?_⟩
  obtain ⟨h1, h2⟩ := look_wipe env is j y h
  obtain ⟨u, h3, h4⟩ := re.2 j y h1
  exact ⟨u, by rw [wipe_get h2]; exact h3, h4⟩
theorem REnv.wipe' (re : REnv W st m H σ env) (is : List Nat) : REnv W st m H σ (wipeE env is) := by
  refine ⟨by rw [wipeE_length, re.1], fun j y h => ?_⟩
  obtain ⟨h1, h2⟩ := look_wipe env is j y h
  exact re.2 j y h1
theorem REnv.le0 {st' : Sto} {m' : Mp} {H' : Hp} (re : REnv W st m H σ env) (l : Le0 st m H st' m' H') : REnv W st' m' H' σ env :=
  ⟨re.1, fun i x e => let ⟨v, h1, h2⟩ := re.2 i x e; ⟨v, h1, h2.le0 l⟩⟩
end
/-! ### targets -/
mutual
def gt (K : PySem.W.Frag) : Tg → TG
  | .nm i => gName i
  | .tup ts => gTup K (nts ts) (gts K ts)
def gts (K : PySem.W.Frag) : Tgs → TGs
  | .nil => gNil
  | .cons t ts => gCons (gt K t) (gts K ts)
def nts : Tgs → Nat
  | .nil => 0
  | .cons _ ts => nts ts + 1
end
theorem loc_of {X : Cx} {x : Str} {fnb : Str → Bool} (hf : ∀ x, fnb x = true → X.fn x = true) (h : locB X.env.scope fnb x = true) : Loc X.env.scope x ∧ (X.fn x = true ∨ X.env.scope.names.lookup x = some .local) := by
  unfold locB at h
  split at h <;> first | (rename_i e; exact ⟨.inl e, .inr e⟩) | (rename_i e; exact ⟨.inr e, .inl (hf _ h)⟩) | cases h
theorem assignEach_any (es : List Expr) (env : PySem.Env) (ts : Tgs) {N : List Str} {sc : Scope} {fnb : Str → Bool} : True := trivial
mutual
theorem pg_chk {X : Cx} {fnb : Str → Bool} (hc : X.calm = true) (hN : X.N.Nodup) (hf : ∀ x, fnb x = true → X.fn x = true) : ∀ (t : Tg) (e : Expr), chkTg X.N X.env.scope fnb t e = true → PG X e (gt X.K t)
  | .nm i, e, h => by
    cases e <;> first | (exfalso; simp [chkTg] at h; done) | skip
    simp only [chkTg, Bool.and_eq_true, decide_eq_true_eq] at h
    obtain ⟨⟨h1, h2⟩, h3⟩ := h
    obtain ⟨l1, l2⟩ := loc_of hf h2
    exact pg_name hN h1 l1 l2
  | .tup ts, e, h => by
    cases e <;> first | (exfalso; simp [chkTg] at h; done) | skip
    rename_i es k p
    simp only [chkTg] at h
    obtain ⟨h1, h2, h3⟩ := pgs_chk hc hN hf ts es h
    exact pg_tup hc h1 h2 h3
theorem pgs_chk {X : Cx} {fnb : Str → Bool} (hc : X.calm = true) (hN : X.N.Nodup) (hf : ∀ x, fnb x = true → X.fn x = true) : ∀ (ts : Tgs) (es : List Expr), chkTgs X.N X.env.scope fnb ts es = true → PGs X es (gts X.K ts) ∧ (assignEach es X.env).length = nts ts ∧ (assignEach es X.env).findIdx? (·.1) = none
  | .nil, es, h => by
    cases es <;> first | (exfalso; simp [chkTgs] at h; done) | skip
    exact ⟨pgs_nil, rfl, rfl⟩
  | .cons t ts, es, h => by
    cases es <;> first | (exfalso; simp [chkTgs] at h; done) | skip
    rename_i e es
    simp only [chkTgs, Bool.and_eq_true] at h
    obtain ⟨h1, h2, h3⟩ := pgs_chk hc hN hf ts es h.2
    have hp := pg_chk hc hN hf t e h.1
    have ha : assignEach (e :: es) X.env = (false, assign e X.env) :: assignEach es X.env := by
      cases t <;> cases e <;> first | rfl | (exfalso; have h' := h.1; simp [chkTg] at h'; done)
    refine ⟨pgs_cons hp h1 (by rw [ha]; rfl), by rw [ha]; simp [nts, h2], by rw [ha, List.findIdx?_cons]; simp [h3]⟩
end
section
variable {W : Wd} {st : Sto} {m : Mp} {H : Hp}
mutual
theorem gt_ok {own : List (Str × Nat)} (rs : RSt W st m H) : ∀ (t : Tg) (σ : L2.St) (env env' : Env) (v : V) (x : PV) (Q : L2.St → Hp → Prop), REnv W st m H σ env → Rep W st m H v x → asg t x env = some env' →
    (∀ σ', REnv W st m H σ' env' → (wipeOk own t = true → L2.wipe σ' (own.map (·.2)) = L2.wipe σ (own.map (·.2))) → Q σ' H) → gt W.K t v σ H Q
  | .nm i, σ, env, env', v, x, Q, re, r, e, k => by
    simp only [asg, Option.some.injEq] at e
    subst e
    refine k _ (re.set r i) fun hw => ?_
    simp only [wipeOk] at hw
    exact (wipe_set σ i (some v) _).1 (by simpa using hw)
  | .tup ts, σ, env, env', v, x, Q, re, r, e, k => by
    cases x <;> first | (exfalso; simp [asg] at e; done) | skip
    rename_i xs
    simp only [asg] at e
    obtain ⟨a, vs, rfl, sq, q, z⟩ := r.tup_inv
    obtain ⟨h1, h2⟩ := gts_ok (own := own) rs ts σ env env' vs xs Q re q e fun σ' re' hw => k σ' re' fun hw' => hw (by simpa [wipeOk] using hw')
    exact ⟨a, vs, rfl, sq, h1, h2⟩
theorem gts_ok {own : List (Str × Nat)} (rs : RSt W st m H) : ∀ (ts : Tgs) (σ : L2.St) (env env' : Env) (vs : List V) (xs : List PV) (Q : L2.St → Hp → Prop), REnv W st m H σ env → RepL W st m H vs xs → asgs ts xs env = some env' →
    (∀ σ', REnv W st m H σ' env' → (wipeOks own ts = true → L2.wipe σ' (own.map (·.2)) = L2.wipe σ (own.map (·.2))) → Q σ' H) → vs.length = nts ts ∧ gts W.K ts vs σ H Q
  | .nil, σ, env, env', vs, xs, Q, re, q, e, k => by
    cases xs <;> first | (exfalso; simp [asgs] at e; done) | skip
    simp only [asgs, Option.some.injEq] at e
    subst e
    cases q
    exact ⟨rfl, rfl, k σ re fun _ => rfl⟩
  | .cons t ts, σ, env, env', vs, xs, Q, re, q, e, k => by
    cases q with
    | nil => exfalso; simp [asgs] at e
    | cons r q =>
      simp only [asgs, Option.bind_eq_some_iff] at e
      obtain ⟨env1, e1, e2⟩ := e
      have len := (asgs_len ts _ _ _ e2)
      refine ⟨by simp [nts, q.length, len], ?_⟩
      refine ⟨_, _, rfl, gt_ok (own := own) rs t σ env env1 _ _ _ re r e1 fun σ1 re1 w1 => ?_⟩
      exact (gts_ok (own := own) rs ts σ1 env1 env' _ _ Q re1 q e2 fun σ2 re2 w2 => k σ2 re2 fun hw => by
        simp only [wipeOks, Bool.and_eq_true] at hw
        rw [w2 hw.2, w1 hw.1]).2
theorem asgs_len : ∀ (ts : Tgs) (xs : List PV) (env env' : Env), asgs ts xs env = some env' → xs.length = nts ts
  | .nil, xs, env, env', h => by cases xs <;> first | rfl | (exfalso; simp [asgs] at h; done)
  | .cons t ts, xs, env, env', h => by
    cases xs with
    | nil => exfalso; simp [asgs] at h
    | cons x xs =>
      simp only [asgs, Option.bind_eq_some_iff] at h
      obtain ⟨e1, h1, h2⟩ := h
      simp [nts, asgs_len ts xs e1 env' h2]
end
end
/-! ### comprehensions -/
theorem PTs.imp {X : Cx} {e : List Expr} {t t' : TT} (h : PTs X e t) (k : ∀ σ H Q, t' σ H Q → t σ H Q) : PTs X e t' := ⟨fun pins s σ H Q I q => h.run pins s σ H Q I (k σ H Q q)⟩
theorem lcL_ok {g : Sto → Prop} [DecidablePred g] {f : PV → Sto → Mo (Option PV)} : ∀ {vs : List PV} {st : Sto} {r : Re (List PV)}, lcL g f vs st = some r → ∃ xs st', r = .ok xs st'
  | [], st, r, h => by
    simp only [lcL] at h
    split at h
    · cases h; exact ⟨_, _, rfl⟩
    · cases h
  | v :: vs, st, r, h => by
    simp only [lcL] at h
    split at h
    · split at h
      · rename_i o st1 e
        cases e2 : lcL g f vs st1 with
        | none => rw [e2] at h; cases h
        | some r2 =>
          obtain ⟨xs, st', rfl⟩ := lcL_ok e2
          rw [e2] at h
          cases h
          exact ⟨_, _, rfl⟩
      · cases h
    · cases h
theorem lcL_nil {g : Sto → Prop} [DecidablePred g] {f : PV → Sto → Mo (Option PV)} {st st' : Sto} {xs : List PV} (h : lcL g f [] st = some (.ok xs st')) : g st ∧ xs = [] ∧ st' = st := by
  simp only [lcL] at h
  split at h
  · cases h; exact ⟨by assumption, rfl, rfl⟩
  · cases h
theorem lcL_cons {g : Sto → Prop} [DecidablePred g] {f : PV → Sto → Mo (Option PV)} {v : PV} {vs : List PV} {st st' : Sto} {xs : List PV} (h : lcL g f (v :: vs) st = some (.ok xs st')) :
    g st ∧ ∃ o st1 ys, f v st = some (.ok o st1) ∧ lcL g f vs st1 = some (.ok ys st') ∧ xs = o.toList ++ ys := by
  simp only [lcL] at h
  split at h
  · rename_i hg
    split at h
    · rename_i o st1 e
      cases e2 : lcL g f vs st1 with
      | none => rw [e2] at h; cases h
      | some r2 =>
        obtain ⟨ys, st2, rfl⟩ := lcL_ok e2
        rw [e2] at h
        cases h
        exact ⟨hg, o, st1, ys, e, e2, rfl⟩
    · cases h
  · cases h
/-- a hidden place's content changes -/
theorem Le0.hidset {W : Wd} {st : Sto} {m : Mp} {H : Hp} {D : Addr} {o : HO} (hD : m.hid D) : Le0 st m H st m (upd H D o) :=
  ⟨Nat.le_refl _, fun _ _ => rfl, fun a u e n => ⟨by rw [upd_ne (fun z => n (.inr (by rw [z]; exact hD)))]; exact e, n⟩⟩
theorem RSt.hidset {W : Wd} {st : Sto} {m : Mp} {H : Hp} {D : Addr} {o : HO} (rs : RSt W st m H) (hD : m.hid D) (ho : Mut (some o)) : RSt W st m (upd H D o) := by
  refine ⟨fun n c e => ?_, rs.inj, fun a ha => ?_, rs.hinj⟩
  · by_cases lv : live c
    · exact (rs.cell n c e).le0 (Le0.hidset (W := W) hD) (upd_ne (fun z => rs.hinj n c e lv (by rw [z]; exact hD)))
    · cases c <;> first | trivial | exact absurd trivial lv
  · by_cases h : a = D
    · subst h
      exact ⟨o, upd_same, ho⟩
    · obtain ⟨u, e, mu⟩ := rs.hid a ha
      exact ⟨u, by rw [upd_ne h]; exact e, mu⟩
theorem wipe_wipe (σ : L2.St) : ∀ vs : List Nat, L2.wipe (L2.wipe σ vs) vs = L2.wipe σ vs := fun vs => by
  refine List.ext_getElem? fun j => ?_
  by_cases h : j ∈ vs
  · have : ∀ (τ : L2.St) (ws : List Nat), j ∈ ws → j < τ.length → (L2.wipe τ ws)[j]? = some none := fun τ ws => by
      induction ws with
      | nil => intro h; cases h
      | cons w ws ih =>
        intro h hl
        show ((L2.wipe τ ws).set w none)[j]? = _
        by_cases hw : w = j
        · subst hw
          rw [List.getElem?_set_self (by rw [wipe_length]; exact hl)]
        · rw [List.getElem?_set_ne hw]
          rcases List.mem_cons.mp h with e | e
          · exact absurd e.symm hw
          · exact ih e hl
    by_cases hl : j < σ.length
    · rw [this _ vs h (by rw [wipe_length]; exact hl), this _ vs h hl]
    · rw [List.getElem?_eq_none (by rw [wipe_length, wipe_length]; omega), List.getElem?_eq_none (by rw [wipe_length]; omega)]
  · rw [wipe_get h]
/-- what a turn of a comprehension computes -/
noncomputable def lcF (tg : Tg) (vs : List Nat) (ft : Env → Sto → Mo Bool) (fe : Env → Sto → Mo PV) (env : Env) (v : PV) (st : Sto) : Mo (Option PV) := match asg tg v (wipeE env vs) with
  | some env' => bnd (ft env' st) fun r st => match r with
    | true => bnd (fe env' st) fun x st => ret (some x) st
    | false => ret none st
  | none => none
/-- the state of a comprehension at the i-th turn -/
structure LcI (W : Wd) (st1 : Sto) (m1 : Mp) (H1 : Hp) (D : Addr) (p : List PV × Option (Nat × List PV)) (f : PV → Sto → Mo (Option PV)) (Q : VK) (i : Nat) (H : Hp) : Prop where
  le : i ≤ p.1.length
  ex : ∃ (st2 : Sto) (m2 : Mp) (acc : List PV) (vs : List V) (xs : List PV) (st3 : Sto), Le0 st1 m1 H1 st2 m2 H ∧ m2.hid = (fun a => m1.hid a ∨ a = D) ∧ (∀ a, m1.hid a → H a = H1 a) ∧ RSt W st2 m2 H ∧ H D = some (.lst vs) ∧
    RepL W st2 m2 H vs acc ∧ acc.length ≤ i ∧ lcL (gok p.2) f (p.1.drop i) st2 = some (.ok xs st3) ∧
    ∀ b H' m', Le st1 m1 H1 st3 m' H' → RSt W st3 m' H' → Rep W st3 m' H' b (.lst (acc ++ xs)) → Q b H'
section
variable {W : Wd} {X : Cx} {Wx : WX} {fe : Env → Sto → Mo PV} {ft : Env → Sto → Mo Bool} {fi : Env → Sto → Mo (List PV × Option (Nat × List PV))}
theorem p_lcG {elt tg iter : Expr} {ifs : List Expr} {scope : Scope} {own : List (Str × Nat)} {pos : Pos} {t : Tg} (hK : X.K = W.K) (hc : X.calm = true) (hN : X.N.Nodup) (hi : PI X tg iter (tM W Wx (RpI W) fi)) (okb : BlkOk X.N X.env.scope scope own)
    (hg : ∀ (s : Shared) (H : Hp) (C : Addr) (cl : List (Str × Addr)) (fp : List Addr), PG (X.blk s H scope (compEnvC scope cl C X.env) fp) tg (gt X.K t))
    (ht : ∀ (s : Shared) (H : Hp) (C : Addr) (cl : List (Str × Addr)) (fp : List Addr), PTs (X.blk s H scope (compEnvC scope cl C X.env) fp) ifs (tM W (fun _ _ _ _ => False) RpB ft))
    (he : ∀ (s : Shared) (H : Hp) (C : Addr) (cl : List (Str × Addr)) (fp : List Addr), PE (X.blk s H scope (compEnvC scope cl C X.env) fp) elt (tM W (fun _ _ _ _ => False) (RpV W) fe)) (hs : ∀ x, foldedSetIterable iter X.env x = pure x) (hw : wipeOk own t = true) :
    PE X (.ListComp elt [⟨tg, iter, ifs, 0⟩] scope pos) (tM W Wx (RpV W) fun env st => bnd (fi env st) fun p st => bnd (lcL (gok p.2) (lcF t (own.map (·.2)) ft fe env) p.1 st) fun xs st => ret (.lst xs) st) := by
  refine PE.imp (pe_lc hc hN hi okb hg ht he hs) fun σ H0 Q ⟨env, st, m, re, rs, s⟩ => ?_
  refine tM.step re rs s fun J H1 p st1 m1 l1 re1 rs1 hJ s1 => ?_
  obtain ⟨hJ, hlen⟩ := hJ
  intro D hD
  -- what the loop computes
  obtain ⟨xs, st3, eL, fin⟩ : ∃ xs st3, lcL (gok p.2) (lcF t (own.map (·.2)) ft fe env) p.1 st1 = some (.ok xs st3) ∧ ∀ b H' m', Le st1 m1 H1 st3 m' H' → RSt W st3 m' H' → Rep W st3 m' H' b (.lst xs) → Q b H' := by
    cases e : lcL (gok p.2) (lcF t (own.map (·.2)) ft fe env) p.1 st1 with
    | none => rw [e] at s1; exact s1.elim
    | some r =>
      obtain ⟨xs, st3, rfl⟩ := lcL_ok e
      rw [e] at s1
      exact ⟨xs, st3, rfl, s1⟩
  have nD : ∀ {a o}, H1 a = some o → a ≠ D := fun {a o} e z => by rw [z, hD] at e; cases e
  have hid1 : ∀ a, m1.hid a → a ≠ D := fun a ha => by
    obtain ⟨o, e, _⟩ := rs1.hid a ha
    exact nD e
  refine ⟨fun i k H => k = p.1.length - i ∧ LcI W st1 m1 H1 D p (lcF t (own.map (·.2)) ft fe env) Q i H, ⟨p.1.length, by simp, Nat.zero_le _, ?_⟩, ?_⟩
  · -- the start
    have l0 : Le0 st1 m1 H1 st1 ⟨m1.at_, fun a => m1.hid a ∨ a = D⟩ (upd H1 D (.lst [])) := ⟨Nat.le_refl _, fun _ _ => rfl, fun a o e n => ⟨by rw [upd_ne (nD e)]; exact e, fun z => by
      rcases z with z | z | z
      · exact n (.inl z)
      · exact n (.inr z)
      · exact nD e z⟩⟩
    refine ⟨st1, ⟨m1.at_, fun a => m1.hid a ∨ a = D⟩, [], [], xs, st3, l0, rfl, fun a ha => upd_ne (hid1 a ha), ?_, upd_same, .nil, Nat.zero_le _, eL, fin⟩
    refine ⟨fun n c e => ?_, rs1.inj, fun a ha => ?_, fun n c e lv z => ?_⟩
    · by_cases lv : live c
      · obtain ⟨o, eo, _⟩ := (rs1.cell n c e).some lv
        exact (rs1.cell n c e).le0 l0 (upd_ne (nD eo))
      · cases c <;> first | trivial | exact absurd trivial lv
    · rcases ha with ha | ha
      · obtain ⟨o, e, mu⟩ := rs1.hid a ha
        exact ⟨o, by rw [upd_ne (nD e)]; exact e, mu⟩
      · exact ⟨.lst [], by rw [ha]; exact upd_same, trivial⟩
    · rcases z with z | z
      · exact rs1.hinj n c e lv z
      · obtain ⟨o, eo, _⟩ := (rs1.cell n c e).some lv
        exact nD eo z
  · -- a turn
    rintro i k H ⟨rfl, hle, st2, m2, acc, vs, ys, st4, l2, hh, hk, rs2, hv, q, ha, eL2, fin2⟩
    have hDh : m2.hid D := by rw [hh]; exact .inr rfl
    by_cases hi : i < p.1.length
    · obtain ⟨v, hv'⟩ : ∃ v, p.1[i]? = some v := ⟨_, List.getElem?_eq_getElem hi⟩
      have hdrop : p.1.drop i = v :: p.1.drop (i + 1) := by
        rw [List.drop_eq_getElem_cons hi]
        have e := List.getElem?_eq_getElem hi
        rw [hv'] at e
        rw [Option.some.inj e]
      rw [hdrop] at eL2
      obtain ⟨hg, o, st5, zs, ef, eL3, rfl⟩ := lcL_cons eL2
      obtain ⟨hgo, _⟩ := hJ st2 m2 H l2 rs2 hg
      obtain ⟨go, hy⟩ := hgo i v hv'
      refine .inr ⟨go, LcI W st1 m1 H1 D p (lcF t (own.map (·.2)) ft fe env) Q (i + 1), fun H' h => ⟨p.1.length - (i + 1), by omega, rfl, h⟩, fun x H' y => ?_⟩
      obtain ⟨ly, rsy, ry⟩ := hy x H' y
      unfold lcF at ef
      cases ea : asg t v (wipeE env (own.map (·.2))) with
      | none => rw [ea] at ef; cases ef
      | some env' =>
        rw [ea] at ef
        simp only at ef
        have rew : REnv W st2 m2 H' (L2.wipe σ (own.map (·.2))) (wipeE env (own.map (·.2))) := ((re1.le0 l2).le ly).wipe _
        rw [hK]
        refine gt_ok (own := own) rsy t _ _ env' x v _ rew ry ea fun σ2 re2 hw2 => ?_
        refine ⟨by rw [hw2 hw]; exact (wipe_wipe σ _), env', st2, m2, re2, rsy, ?_⟩
        cases et : ft env' st2 with
        | none => rw [et] at ef; cases ef
        | some r =>
          rw [et] at ef
          cases r with
          | ex c us s' => cases ef
          | ok r st6 =>
            simp only [bnd_ok] at ef
            intro b H3 m3 l3 rs3 hb
            subst hb
            -- the new list as it stands
            have dv : ∀ {st' m' H''}, Le st2 m2 H' st' m' H'' → H'' D = some (.lst vs) ∧ m'.hid = (fun a => m1.hid a ∨ a = D) ∧ (∀ a, m1.hid a → H'' a = H1 a) ∧ Le0 st1 m1 H1 st' m' H'' := fun {st' m' H''} l => by
              have lt := ly.trans l
              exact ⟨(lt.hkeep D hDh).trans hv, lt.hid.trans hh, fun a ha => (lt.hkeep a (by rw [hh]; exact .inl ha)).trans (hk a ha), l2.trans lt.toLe0⟩
            cases b with
            | false =>
              cases ef
              obtain ⟨d1, d2, d3, d4⟩ := dv l3
              refine ⟨hi, st5, m3, acc, vs, zs, st4, d4, d2, d3, rs3, d1, q.le (ly.trans l3), by omega, eL3, ?_⟩
              simpa using fin2
            | true =>
              cases ee : fe env' st6 with
              | none => rw [ee] at ef; cases ef
              | some r2 =>
                rw [ee] at ef
                cases r2 with
                | ex c us s' => cases ef
                | ok x2 st7 =>
                  cases ef
                  refine ⟨env', st6, m3, re2.le l3, rs3, ?_⟩
                  rw [ee]
                  intro y2 H4 m4 l4 rs4 r4
                  obtain ⟨d1, d2, d3, d4⟩ := dv (l3.trans l4)
                  have hD4 : m4.hid D := by rw [d2]; exact .inr rfl
                  have nl : vs.length < sizeLine := by rw [q.length]; omega
                  have lh : Le0 st5 m4 H4 st5 m4 (upd H4 D (.lst (vs ++ [y2]))) := Le0.hidset (W := W) hD4
                  refine ⟨vs, d1, nl, hi, st5, m4, acc ++ [x2], vs ++ [y2], zs, st4, d4.trans lh, d2, fun a ha => ?_, rs4.hidset hD4 trivial, upd_same, ?_, by rw [List.length_append]; simp; omega, eL3, ?_⟩
                  · rw [upd_ne (hid1 a ha)]; exact d3 a ha
                  · exact ((q.le ((ly.trans l3).trans l4)).append (.cons r4 .nil)).le0 lh
                  · simpa using fin2
    · have hn : i = p.1.length := by omega
      subst hn
      rw [List.drop_length] at eL2
      obtain ⟨hg, rfl, rfl⟩ := lcL_nil eL2
      obtain ⟨_, hstop⟩ := hJ st4 m2 H l2 rs2 hg
      refine .inl ⟨hstop, ?_⟩
      rw [List.append_nil] at fin2
      have ow : ∀ {a}, Own st4 ⟨m2.at_, m1.hid⟩ a → Own st4 m2 a := fun {a} z => by
        rcases z with z | z
        · exact .inl z
        · exact .inr (by rw [hh]; exact .inl z)
      have l3 : Le0 st4 m2 H st4 ⟨m2.at_, m1.hid⟩ H := ⟨Nat.le_refl _, fun _ _ => rfl, fun a o e n => ⟨e, fun z => n (ow z)⟩⟩
      have rs3 : RSt W st4 ⟨m2.at_, m1.hid⟩ H := ⟨fun n c e => (rs2.cell n c e).le0 l3 rfl, rs2.inj, fun a z => rs2.hid a (by rw [hh]; exact .inl z), fun n c e lv z => rs2.hinj n c e lv (by rw [hh]; exact .inl z)⟩
      refine fin2 (.ref D) H ⟨m2.at_, m1.hid⟩ ⟨l2.trans l3, rfl, hk⟩ rs3 (.lst hv (fun z => ?_) (by omega) (q.le0 l3))
      rcases z with ⟨n, c, e, lv, z⟩ | z
      · exact rs2.hinj n c e lv (by rw [show m2 n = D from z]; exact hDh)
      · exact hid1 D z rfl
end
end BR
end
section
set_option Elab.async false
set_option linter.all false
set_option maxRecDepth 100000
set_option maxHeartbeats 4000000
/-! BrSndD: a checked expression does what the evaluator says. -/
namespace BR
open PySem PySem.Spec PyProof.Rows L2
section
variable {W : Wd} {nm : Nms} {T : Tab} {Φ : Phi}
theorem blk_ok {X : Cx} {Wx : WX} (ok : XOk W nm T Φ X Wx) (s : Shared) (H : Hp) (scope : Scope) (ce : PySem.Env) (fp : List Addr) : XOk W nm T Φ (X.blk s H scope ce fp) (fun _ _ _ _ => False) :=
  ⟨ok.K, ok.calm, ok.nd, takes0, ok.sym, ok.inj, ok.blt, ok.gcd, ok.room, ok.fn, ok.kp, ok.glb, ok.cls, ok.isc, ok.mth, ok.att⟩
theorem none_of {e : E} {N : List Str} {sc : Scope} {pe : Expr} (h : chkE nm N e sc pe = true) (hn : isNonE pe = true) : e = .non := by
  cases pe <;> first | (exfalso; simp [isNonE] at hn; done) | skip
  rename_i c k p
  cases c <;> first | (exfalso; simp [isNonE] at hn; done) | skip
  cases e <;> first | rfl | (exfalso; simp [chkE] at h; done) | skip
  rename_i e
  exfalso
  simp only [chkE, Bool.and_eq_true] at h
  cases e <;> first | (exfalso; simp [fresh] at h; done) | (exfalso; simp [chkE] at h; done) | skip
def isBoolE : Expr → Bool
  | .BoolOp _ _ _ => true
  | _ => false
theorem bnd_assoc {α β γ : Type} (a : Mo α) (f : α → Sto → Mo β) (g : β → Sto → Mo γ) : bnd (bnd a f) g = bnd a fun x st => bnd (f x st) g := by
  cases a with
  | none => rfl
  | some r => cases r <;> rfl
theorem tM.cong {α β : Type} {Wx : WX} {Rp : Sto → Mp → Hp → β → α → Prop} {f g : Env → Sto → Mo α} {σ : L2.St} {H : Hp} {Q : β → Hp → Prop} (h : tM W Wx Rp f σ H Q) (e : ∀ env st, f env st = g env st) : tM W Wx Rp g σ H Q := by
  rw [show g = f from funext fun env => funext fun st => (e env st).symm]
  exact h
theorem t_plain {X : Cx} {Wx : WX} {pe : Expr} {f : Env → Sto → Mo PV} (ok : XOk W nm T Φ X Wx) (hp : plainT pe = true) (hE : PE X pe (tM W Wx (RpV W) f)) :
    PT X pe (tM W Wx RpB (fun env st => bnd (f env st) fun x st => lif (tru st x) st)) ∧ (isBoolE pe = true → PW X pe (tM W Wx RpB (fun env st => bnd (f env st) fun x st => lif (tru st x) st))) :=
  ⟨t_truth ok hp hE, fun z => by cases pe <;> first | (exfalso; simp [plainT] at hp; done) | (exfalso; simp [isBoolE] at z; done)⟩
mutual
theorem E_ok : ∀ (e : E) (X : Cx) (Wx : WX), XOk W nm T Φ X Wx → ∀ pe, chkE nm X.N e X.env.scope pe = true → PE X pe (tM W Wx (RpV W) (ev T Φ e))
  | .var i, X, Wx, ok, pe, h => by
    unfold chkE at h; split at h <;> first | (cases h; done) | skip
    simp only [Bool.and_eq_true, decide_eq_true_eq] at h
    exact p_var h.1.1 h.1.2 h.2
  | .int n, X, Wx, ok, pe, h => by
    unfold chkE at h; split at h <;> first | (cases h; done) | skip
    simp only [decide_eq_true_eq] at h
    subst h
    exact p_const pe_int fun _ _ _ => .int _
  | .bl b, X, Wx, ok, pe, h => by
    unfold chkE at h; split at h <;> first | (cases h; done) | skip
    simp only [decide_eq_true_eq] at h
    subst h
    exact p_const pe_bl fun _ _ _ => .bl _
  | .str s, X, Wx, ok, pe, h => by
    unfold chkE at h; split at h <;> first | (cases h; done) | skip
    simp only [Bool.and_eq_true, decide_eq_true_eq] at h
    obtain ⟨h1, h2⟩ := h
    subst h1
    exact p_const pe_str fun _ _ _ => .str (Nat.le_trans h2 (by rw [sizeLine_eq]; decide))
  | .non, X, Wx, ok, pe, h => by
    unfold chkE at h; split at h <;> first | (cases h; done) | skip
    exact p_const pe_non fun _ _ _ => .non
  | .glb x, X, Wx, ok, pe, h => by
    unfold chkE at h; split at h <;> first | (cases h; done) | skip
    simp only [Bool.and_eq_true, decide_eq_true_eq] at h
    obtain ⟨⟨h1, h2⟩, h3⟩ := h
    rw [← ok.sym] at h1
    subst h1
    exact p_glb ok h2 h3
  | .bin op a b, X, Wx, ok, pe, h => by
    unfold chkE at h; split at h <;> first | (cases h; done) | skip
    simp only [Bool.and_eq_true] at h
    exact p_bin ok h.1.1 (E_ok a X Wx ok _ h.1.2) (E_ok b X Wx ok _ h.2)
  | .neg a, X, Wx, ok, pe, h => by
    unfold chkE at h; split at h <;> first | (cases h; done) | skip
    exact p_neg (E_ok a X Wx ok _ h)
  | .cmp op a b, X, Wx, ok, pe, h => by
    unfold chkE at h; split at h <;> first | (cases h; done) | skip
    simp only [Bool.and_eq_true, Bool.or_eq_true, Bool.not_eq_true'] at h
    obtain ⟨⟨⟨⟨h1, h2⟩, h3⟩, h4⟩, h5⟩ := h
    refine p_cmp ok h1 h5 (fun z => h4.resolve_left (by rw [z]; decide)) (E_ok a X Wx ok _ h2) (E_ok b X Wx ok _ h3) fun hn env st => ?_
    rw [none_of h3 hn]; rfl
  | .chain o1 o2 a b c, X, Wx, ok, pe, h => by
    unfold chkE at h; split at h <;> first | (cases h; done) | skip
    simp only [Bool.and_eq_true, Bool.not_eq_true'] at h
    obtain ⟨⟨⟨⟨⟨⟨⟨h1, h2⟩, h3⟩, h4⟩, h5⟩, h6⟩, h7⟩, h8⟩ := h
    exact p_chain ok h1 h2 h8 h6 h7 (E_ok a X Wx ok _ h3) (E_ok b X Wx ok _ h4) (E_ok c X Wx ok _ h5)
  | .and a b, X, Wx, ok, pe, h => by
    unfold chkE at h; split at h <;> first | (cases h; done) | skip
    simp only [Bool.and_eq_true] at h
    exact p_and ok (E_ok a X Wx ok _ h.1) (E_ok b X Wx ok _ h.2)
  | .or a b, X, Wx, ok, pe, h => by
    unfold chkE at h; split at h <;> first | (cases h; done) | skip
    simp only [Bool.and_eq_true] at h
    exact p_or ok (E_ok a X Wx ok _ h.1) (E_ok b X Wx ok _ h.2)
  | .one a, X, Wx, ok, pe, h => by
    unfold chkE at h; split at h <;> first | (cases h; done) | skip
    exact pe_one (E_ok a X Wx ok _ h)
  | .not a, X, Wx, ok, pe, h => by
    unfold chkE at h; split at h <;> first | (cases h; done) | skip
    exact p_not ok (E_ok a X Wx ok _ h)
  | .ite t a b, X, Wx, ok, pe, h => by
    unfold chkE at h; split at h <;> first | (cases h; done) | skip
    simp only [Bool.and_eq_true] at h
    obtain ⟨⟨⟨h1, h2⟩, h3⟩, h4⟩ := h
    exact p_ite (T_ok t X Wx ok _ h2 h1 (E_ok t X Wx ok _ h2)).1 (E_ok a X Wx ok _ h3) (E_ok b X Wx ok _ h4)
  | .tup es, X, Wx, ok, pe, h => by
    unfold chkE at h; split at h <;> first | (cases h; done) | skip
    exact p_tup (Es_ok es X Wx ok _ h)
  | .lst es, X, Wx, ok, pe, h => by
    unfold chkE at h; split at h <;> first | (cases h; done) | skip
    exact p_lst (Es_ok es X Wx ok _ h)
  | .newd, X, Wx, ok, pe, h => by
    unfold chkE at h; split at h <;> first | (cases h; done) | skip
    exact p_newd
  | .idx a b, X, Wx, ok, pe, h => by
    unfold chkE at h; split at h <;> first | (cases h; done) | skip
    simp only [Bool.and_eq_true, Bool.not_eq_true'] at h
    exact p_idx ok h.1.1 (E_ok a X Wx ok _ h.1.2) (E_ok b X Wx ok _ h.2)
  | .slB a lo hi, X, Wx, ok, pe, h => by
    unfold chkE at h; split at h <;> first | (cases h; done) | skip
    simp only [Bool.and_eq_true] at h
    exact p_slB ok (E_ok a X Wx ok _ h.1.1) (E_ok lo X Wx ok _ h.1.2) (E_ok hi X Wx ok _ h.2)
  | .slL a lo, X, Wx, ok, pe, h => by
    unfold chkE at h; split at h <;> first | (cases h; done) | skip
    simp only [Bool.and_eq_true] at h
    exact p_slL ok (E_ok a X Wx ok _ h.1) (E_ok lo X Wx ok _ h.2)
  | .slH a hi, X, Wx, ok, pe, h => by
    unfold chkE at h; split at h <;> first | (cases h; done) | skip
    simp only [Bool.and_eq_true] at h
    exact p_slH ok (E_ok a X Wx ok _ h.1) (E_ok hi X Wx ok _ h.2)
  | .fld a f, X, Wx, ok, pe, h => by
    unfold chkE at h; split at h <;> first | (cases h; done) | skip
    simp only [Bool.and_eq_true, decide_eq_true_eq] at h
    obtain ⟨⟨h1, h2⟩, h3⟩ := h
    rw [← ok.sym] at h1
    subst h1
    exact p_fld ok h2 (E_ok a X Wx ok _ h3)
  | .call f es, X, Wx, ok, pe, h => by
    unfold chkE at h; split at h <;> first | (cases h; done) | skip
    simp only [Bool.and_eq_true, decide_eq_true_eq, Bool.not_eq_true'] at h
    obtain ⟨⟨⟨⟨⟨h1, h2⟩, h3⟩, h4⟩, h5⟩, h6⟩ := h
    subst h2
    exact p_call ok h1 h3 h4 h6 (Es_ok es X Wx ok _ h5)
  | .callv i es, X, Wx, ok, pe, h => by
    unfold chkE at h; split at h <;> first | (cases h; done) | skip
    simp only [Bool.and_eq_true, decide_eq_true_eq, Bool.not_eq_true'] at h
    obtain ⟨⟨⟨⟨h1, h2⟩, h3⟩, h4⟩, h5⟩ := h
    exact p_callv ok h1 h2 h3 h5 (Es_ok es X Wx ok _ h4)
  | .meth a mt es, X, Wx, ok, pe, h => by
    unfold chkE at h; split at h <;> first | (cases h; done) | skip
    simp only [Bool.and_eq_true, decide_eq_true_eq, Bool.not_eq_true'] at h
    obtain ⟨⟨⟨⟨⟨⟨h1, h2⟩, h3⟩, h4⟩, h5⟩, h6⟩, h7⟩ := h
    rw [← ok.sym] at h3
    subst h3
    exact p_meth ok h4 h7 h2 h1 (E_ok a X Wx ok _ h5) (Es_ok es X Wx ok _ h6)
  | .mk c es, X, Wx, ok, pe, h => by
    unfold chkE at h; split at h <;> first | (cases h; done) | skip
    simp only [Bool.and_eq_true, decide_eq_true_eq, Bool.not_eq_true'] at h
    obtain ⟨⟨⟨⟨⟨h1, h2⟩, h3⟩, h4⟩, h5⟩, h6⟩ := h
    rw [← ok.sym] at h2
    subst h2
    rw [List.any_cons, Bool.or_eq_false_iff] at h6
    exact p_mk ok h1 h3 h4 h6.1 h6.2 (Es_ok es X Wx ok _ h5)
  | .blt b es, X, Wx, ok, pe, h => by
    unfold chkE at h; split at h <;> first | (cases h; done) | skip
    simp only [Bool.and_eq_true, decide_eq_true_eq, Bool.not_eq_true'] at h
    obtain ⟨⟨⟨h2, h3⟩, h5⟩, h6⟩ := h
    subst h2
    rw [List.any_cons, Bool.or_eq_false_iff] at h6
    exact p_blt ok b h3 h6.1 h6.2 (Es_ok es X Wx ok _ h5)
  | .bm a mt e, X, Wx, ok, pe, h => by
    unfold chkE at h; split at h <;> first | (cases h; done) | skip
    simp only [Bool.and_eq_true, decide_eq_true_eq, Bool.not_eq_true'] at h
    obtain ⟨⟨⟨⟨⟨h1, h2⟩, h3⟩, h4⟩, h5⟩, h6⟩ := h
    subst h1
    cases mt with
    | join => exact p_join ok h2 h3 h4 (E_ok a X Wx ok _ h5) (E_ok e X Wx ok _ h6)
    | split => exact p_split ok h2 h3 h4 (E_ok a X Wx ok _ h5) (E_ok e X Wx ok _ h6)
    | index => exact p_index ok h2 h3 h4 (E_ok a X Wx ok _ h5) (E_ok e X Wx ok _ h6)
  | .isi a t, X, Wx, ok, pe, h => by
    unfold chkE at h; split at h <;> first | (cases h; done) | skip
    simp only [Bool.and_eq_true, decide_eq_true_eq, Bool.not_eq_true'] at h
    obtain ⟨⟨⟨⟨⟨h1, h2⟩, h3⟩, h4⟩, h5⟩, h6⟩ := h
    subst h1 h2
    exact p_isi ok t h3 h4 h5 (E_ok a X Wx ok _ h6)
  | .lc it tg e own, X, Wx, ok, pe, h => by
    unfold chkE at h; split at h <;> first | (cases h; done) | skip
    simp only [Bool.and_eq_true, Bool.not_eq_true'] at h
    obtain ⟨⟨⟨⟨⟨h1, h2⟩, h3⟩, h4⟩, h5⟩, h6⟩ := h
    exact p_lcG (ft := fun _ st => ret true st) ok.K ok.calm ok.nd (It_ok it X Wx ok _ _ h2) (blkOk_by h3)
      (fun s H C cl fp => pg_chk (X := X.blk s H _ _ fp) ok.calm ok.nd (fun x z => z) _ _ h4)
      (fun s H C cl fp => PTs.imp pts_nil fun σ H Q ⟨env, st, m, re, rs, s⟩ => s.ret rs rfl)
      (fun s H C cl fp => E_ok e (X.blk s H _ _ fp) _ (blk_ok ok ..) _ h5) (folded h1) h6
  | .lcc it tg c e own, X, Wx, ok, pe, h => by
    unfold chkE at h; split at h <;> first | (cases h; done) | skip
    simp only [Bool.and_eq_true, Bool.not_eq_true'] at h
    obtain ⟨⟨⟨⟨⟨⟨⟨h0, h1⟩, h2⟩, h3⟩, h4⟩, h7⟩, h5⟩, h6⟩ := h
    exact p_lcG (ft := fun env st => bnd (ev T Φ c env st) fun x st => lif (tru st x) st) ok.K ok.calm ok.nd (It_ok it X Wx ok _ _ h2) (blkOk_by h3)
      (fun s H C cl fp => pg_chk (X := X.blk s H _ _ fp) ok.calm ok.nd (fun x z => z) _ _ h4)
      (fun s H C cl fp => pts_one (T_ok c (X.blk s H _ _ fp) _ (blk_ok ok ..) _ h7 h0 (E_ok c (X.blk s H _ _ fp) _ (blk_ok ok ..) _ h7)).1)
      (fun s H C cl fp => E_ok e (X.blk s H _ _ fp) _ (blk_ok ok ..) _ h5) (folded h1) h6
  | .cell e, X, Wx, ok, pe, h => by
    unfold chkE at h
    simp only [Bool.and_eq_true] at h
    refine p_cell (fa := ev T Φ e) ?_
    exact F_ok e X Wx ok pe h.2 h.1
  | .frz i, X, Wx, ok, pe, h => by
    unfold chkE at h; split at h <;> first | (cases h; done) | skip
    simp only [Bool.and_eq_true, decide_eq_true_eq] at h
    exact p_frz h.1.1 h.1.2 h.2
/-- fresh ones -/
theorem F_ok : ∀ (e : E) (X : Cx) (Wx : WX), XOk W nm T Φ X Wx → ∀ pe, chkE nm X.N e X.env.scope pe = true → fresh e = true → PE X pe (tF W Wx (ev T Φ e))
  | .lst es, X, Wx, ok, pe, h, hf => by
    unfold chkE at h; split at h <;> first | (cases h; done) | skip
    exact f_lst (Es_ok es X Wx ok _ h)
  | .newd, X, Wx, ok, pe, h, hf => by
    unfold chkE at h; split at h <;> first | (cases h; done) | skip
    exact f_newd
  | .blt .list es, X, Wx, ok, pe, h, hf => by
    unfold chkE at h; split at h <;> first | (cases h; done) | skip
    simp only [Bool.and_eq_true, decide_eq_true_eq, Bool.not_eq_true'] at h
    obtain ⟨⟨⟨h2, h3⟩, h5⟩, h6⟩ := h
    subst h2
    rw [List.any_cons, Bool.or_eq_false_iff] at h6
    exact f_list ok h3 h6.1 h6.2 (Es_ok es X Wx ok _ h5)
  | .bin .add a b, X, Wx, ok, pe, h, hf => by
    unfold chkE at h; split at h <;> first | (cases h; done) | skip
    rename_i l o r p
    simp only [Bool.and_eq_true] at h
    cases o <;> first | (exfalso; have h1 := h.1.1; simp [opB] at h1; done) | skip
    exact f_add ok (E_ok a X Wx ok _ h.1.2) (E_ok b X Wx ok _ h.2)
  | .var _, _, _, _, _, _, hf => by cases hf
  | .int _, _, _, _, _, _, hf => by cases hf
  | .bl _, _, _, _, _, _, hf => by cases hf
  | .str _, _, _, _, _, _, hf => by cases hf
  | .non, _, _, _, _, _, hf => by cases hf
  | .glb _, _, _, _, _, _, hf => by cases hf
  | .bin .sub _ _, _, _, _, _, _, hf => by cases hf
  | .bin .mul _ _, _, _, _, _, _, hf => by cases hf
  | .bin .fdiv _ _, _, _, _, _, _, hf => by cases hf
  | .bin .mod _ _, _, _, _, _, _, hf => by cases hf
  | .bin .pow _ _, _, _, _, _, _, hf => by cases hf
  | .neg _, _, _, _, _, _, hf => by cases hf
  | .cmp _ _ _, _, _, _, _, _, hf => by cases hf
  | .chain _ _ _ _ _, _, _, _, _, _, hf => by cases hf
  | .and _ _, _, _, _, _, _, hf => by cases hf
  | .or _ _, _, _, _, _, _, hf => by cases hf
  | .one _, _, _, _, _, _, hf => by cases hf
  | .not _, _, _, _, _, _, hf => by cases hf
  | .ite _ _ _, _, _, _, _, _, hf => by cases hf
  | .tup _, _, _, _, _, _, hf => by cases hf
  | .idx _ _, _, _, _, _, _, hf => by cases hf
  | .slB _ _ _, _, _, _, _, _, hf => by cases hf
  | .slL _ _, _, _, _, _, _, hf => by cases hf
  | .slH _ _, _, _, _, _, _, hf => by cases hf
  | .fld _ _, _, _, _, _, _, hf => by cases hf
  | .call _ _, _, _, _, _, _, hf => by cases hf
  | .callv _ _, _, _, _, _, _, hf => by cases hf
  | .meth _ _ _, _, _, _, _, _, hf => by cases hf
  | .mk _ _, _, _, _, _, _, hf => by cases hf
  | .blt .len _, _, _, _, _, _, hf => by cases hf
  | .blt .abs _, _, _, _, _, _, hf => by cases hf
  | .blt .min _, _, _, _, _, _, hf => by cases hf
  | .blt .max _, _, _, _, _, _, hf => by cases hf
  | .blt .int _, _, _, _, _, _, hf => by cases hf
  | .blt .tuple _, _, _, _, _, _, hf => by cases hf
  | .blt .tuplei _, _, _, _, _, _, hf => by cases hf
  | .blt .gcd _, _, _, _, _, _, hf => by cases hf
  | .blt .all _, _, _, _, _, _, hf => by cases hf
  | .blt .any _, _, _, _, _, _, hf => by cases hf
  | .blt .sorted _, _, _, _, _, _, hf => by cases hf
  | .bm _ _ _, _, _, _, _, _, hf => by cases hf
  | .isi _ _, _, _, _, _, _, hf => by cases hf
  | .lc _ _ _ _, _, _, _, _, _, hf => by cases hf
  | .lcc _ _ _ _ _, _, _, _, _, _, hf => by cases hf
  | .cell _, _, _, _, _, _, hf => by cases hf
  | .frz _, _, _, _, _, _, hf => by cases hf
/-- tests -/
theorem T_ok : ∀ (e : E) (X : Cx) (Wx : WX), XOk W nm T Φ X Wx → ∀ pe, chkE nm X.N e X.env.scope pe = true → tstP e pe = true → PE X pe (tM W Wx (RpV W) (ev T Φ e)) →
    PT X pe (tM W Wx RpB (fun env st => bnd (ev T Φ e env st) fun x st => lif (tru st x) st)) ∧ (isBoolE pe = true → PW X pe (tM W Wx RpB (fun env st => bnd (ev T Φ e env st) fun x st => lif (tru st x) st)))
  | .var i, X, Wx, ok, pe, h, ht, hE => t_plain ok (by simpa only [tstP] using ht) hE
  | .int n, X, Wx, ok, pe, h, ht, hE => t_plain ok (by simpa only [tstP] using ht) hE
  | .bl b, X, Wx, ok, pe, h, ht, hE => t_plain ok (by simpa only [tstP] using ht) hE
  | .str s, X, Wx, ok, pe, h, ht, hE => t_plain ok (by simpa only [tstP] using ht) hE
  | .non, X, Wx, ok, pe, h, ht, hE => t_plain ok (by simpa only [tstP] using ht) hE
  | .glb x, X, Wx, ok, pe, h, ht, hE => t_plain ok (by simpa only [tstP] using ht) hE
  | .bin op a b, X, Wx, ok, pe, h, ht, hE => t_plain ok (by simpa only [tstP] using ht) hE
  | .neg a, X, Wx, ok, pe, h, ht, hE => t_plain ok (by simpa only [tstP] using ht) hE
  | .ite t a b, X, Wx, ok, pe, h, ht, hE => t_plain ok (by simpa only [tstP] using ht) hE
  | .tup es, X, Wx, ok, pe, h, ht, hE => t_plain ok (by simpa only [tstP] using ht) hE
  | .lst es, X, Wx, ok, pe, h, ht, hE => t_plain ok (by simpa only [tstP] using ht) hE
  | .newd, X, Wx, ok, pe, h, ht, hE => t_plain ok (by simpa only [tstP] using ht) hE
  | .idx a b, X, Wx, ok, pe, h, ht, hE => t_plain ok (by simpa only [tstP] using ht) hE
  | .slB a lo hi, X, Wx, ok, pe, h, ht, hE => t_plain ok (by simpa only [tstP] using ht) hE
  | .slL a lo, X, Wx, ok, pe, h, ht, hE => t_plain ok (by simpa only [tstP] using ht) hE
  | .slH a hi, X, Wx, ok, pe, h, ht, hE => t_plain ok (by simpa only [tstP] using ht) hE
  | .fld a f, X, Wx, ok, pe, h, ht, hE => t_plain ok (by simpa only [tstP] using ht) hE
  | .call f es, X, Wx, ok, pe, h, ht, hE => t_plain ok (by simpa only [tstP] using ht) hE
  | .callv i es, X, Wx, ok, pe, h, ht, hE => t_plain ok (by simpa only [tstP] using ht) hE
  | .meth a m es, X, Wx, ok, pe, h, ht, hE => t_plain ok (by simpa only [tstP] using ht) hE
  | .mk c es, X, Wx, ok, pe, h, ht, hE => t_plain ok (by simpa only [tstP] using ht) hE
  | .blt b es, X, Wx, ok, pe, h, ht, hE => t_plain ok (by simpa only [tstP] using ht) hE
  | .bm a m e, X, Wx, ok, pe, h, ht, hE => t_plain ok (by simpa only [tstP] using ht) hE
  | .isi a t, X, Wx, ok, pe, h, ht, hE => t_plain ok (by simpa only [tstP] using ht) hE
  | .lc it tg e own, X, Wx, ok, pe, h, ht, hE => t_plain ok (by simpa only [tstP] using ht) hE
  | .lcc it tg c e own, X, Wx, ok, pe, h, ht, hE => t_plain ok (by simpa only [tstP] using ht) hE
  | .cell e, X, Wx, ok, pe, h, ht, hE => t_plain ok (by simpa only [tstP] using ht) hE
  | .frz i, X, Wx, ok, pe, h, ht, hE => t_plain ok (by simpa only [tstP] using ht) hE
  | .cmp op a b, X, Wx, ok, pe, h, ht, hE => by
    unfold chkE at h; split at h <;> first | (cases h; done) | skip
    simp only [Bool.and_eq_true, Bool.or_eq_true, Bool.not_eq_true'] at h
    obtain ⟨⟨⟨⟨h1, h2⟩, h3⟩, h4⟩, h5⟩ := h
    refine ⟨PT.imp (pt_cmp' ok h1 h5 (fun z => h4.resolve_left (by rw [z]; decide)) (E_ok a X Wx ok _ h2) (E_ok b X Wx ok _ h3) fun hn env st => ?_) fun σ H Q h => tM.cong h fun env st => ?_, fun z => by cases z⟩
    · rw [none_of h3 hn]; rfl
    · show bnd (bnd (ev T Φ a env st) fun x st => bnd (ev T Φ b env st) fun y st => bnd (lif (cmpo st op x y) st) fun r st => ret (PV.bl r) st) _ = _
      rw [bnd_assoc]
      congr 1; funext x st
      rw [bnd_assoc]
      congr 1; funext y st
      cases cmpo st op x y <;> rfl
  | .chain o1 o2 a b c, X, Wx, ok, pe, h, ht, hE => by
    unfold chkE at h; split at h <;> first | (cases h; done) | skip
    simp only [Bool.and_eq_true, Bool.not_eq_true'] at h
    obtain ⟨⟨⟨⟨⟨⟨⟨h1, h2⟩, h3⟩, h4⟩, h5⟩, h6⟩, h7⟩, h8⟩ := h
    refine ⟨PT.imp (pt_chain' ok h1 h2 h8 h6 h7 (E_ok a X Wx ok _ h3) (E_ok b X Wx ok _ h4) (E_ok c X Wx ok _ h5)) fun σ H Q h => tM.cong h fun env st => ?_, fun z => by cases z⟩
    show bnd (bnd (ev T Φ a env st) fun x st => bnd (ev T Φ b env st) fun y st => bnd (lif (cmpo st o1 x y) st) fun r st => match r with
      | true => bnd (ev T Φ c env st) fun z st => bnd (lif (cmpo st o2 y z) st) fun r st => ret (PV.bl r) st
      | false => ret (PV.bl false) st) _ = _
    rw [bnd_assoc]
    congr 1; funext x st
    rw [bnd_assoc]
    congr 1; funext y st
    cases cmpo st o1 x y with
    | none => rfl
    | some r =>
      cases r with
      | false => rfl
      | true =>
        simp only [lif_some, bnd_ok]
        rw [bnd_assoc]
        congr 1; funext z st
        cases cmpo st o2 y z <;> rfl
  | .and a b, X, Wx, ok, pe, h, ht, hE => by
    unfold chkE at h; split at h <;> first | (cases h; done) | skip
    simp only [Bool.and_eq_true] at h
    simp only [tstP, Bool.and_eq_true] at ht
    have ha := (T_ok a X Wx ok _ h.1 ht.1 (E_ok a X Wx ok _ h.1)).1
    have hb := (T_ok b X Wx ok _ h.2 ht.2 (E_ok b X Wx ok _ h.2)).2 rfl
    have w := PW.imp (t_and ha hb) fun σ H Q (h : tM W Wx RpB (fun env st => bnd (ev T Φ (.and a b) env st) fun x st => lif (tru st x) st) σ H Q) => tM.cong h fun env st => (by
      show bnd (bnd (ev T Φ a env st) fun x st => bnd (lif (tru st x) st) fun r st => match r with
        | true => ev T Φ b env st
        | false => ret x st) _ = bnd (bnd (ev T Φ a env st) fun x st => lif (tru st x) st) _
      rw [bnd_assoc, bnd_assoc]
      congr 1; funext x st
      cases e : tru st x with
      | none => rfl
      | some r =>
        cases r with
        | true => rfl
        | false => simp only [lif_some, bnd_ok, e])
    exact ⟨w.pt, fun _ => w⟩
  | .or a b, X, Wx, ok, pe, h, ht, hE => by
    unfold chkE at h; split at h <;> first | (cases h; done) | skip
    simp only [Bool.and_eq_true] at h
    simp only [tstP, Bool.and_eq_true] at ht
    have ha := (T_ok a X Wx ok _ h.1 ht.1 (E_ok a X Wx ok _ h.1)).1
    have hb := (T_ok b X Wx ok _ h.2 ht.2 (E_ok b X Wx ok _ h.2)).2 rfl
    have w := PW.imp (t_or ha hb) fun σ H Q (h : tM W Wx RpB (fun env st => bnd (ev T Φ (.or a b) env st) fun x st => lif (tru st x) st) σ H Q) => tM.cong h fun env st => (by
      show bnd (bnd (ev T Φ a env st) fun x st => bnd (lif (tru st x) st) fun r st => match r with
        | true => ret x st
        | false => ev T Φ b env st) _ = bnd (bnd (ev T Φ a env st) fun x st => lif (tru st x) st) _
      rw [bnd_assoc, bnd_assoc]
      congr 1; funext x st
      cases e : tru st x with
      | none => rfl
      | some r =>
        cases r with
        | false => rfl
        | true => simp only [lif_some, bnd_ok, e])
    exact ⟨w.pt, fun _ => w⟩
  | .one a, X, Wx, ok, pe, h, ht, hE => by
    unfold chkE at h; split at h <;> first | (cases h; done) | skip
    rename_i op x p
    simp only [tstP] at ht
    have ha := (T_ok a X Wx ok _ h ht (E_ok a X Wx ok _ h)).1
    have w : PW X (.BoolOp op [x] p) (tM W Wx RpB (fun env st => bnd (ev T Φ a env st) fun x st => lif (tru st x) st)) := by
      cases op with
      | And => exact pw_and1 ha
      | Or => exact pw_or1 ha
    exact ⟨w.pt, fun _ => w⟩
  | .not a, X, Wx, ok, pe, h, ht, hE => by
    unfold chkE at h; split at h <;> first | (cases h; done) | skip
    simp only [tstP] at ht
    refine ⟨PT.imp (t_not (T_ok a X Wx ok _ h ht (E_ok a X Wx ok _ h)).1) fun σ H Q h => tM.cong h fun env st => ?_, fun z => by cases z⟩
    show bnd (bnd (ev T Φ a env st) fun x st => bnd (lif (tru st x) st) fun r st => ret (PV.bl (!r)) st) _ = bnd (bnd (ev T Φ a env st) fun x st => lif (tru st x) st) _
    rw [bnd_assoc, bnd_assoc]
    congr 1; funext x st
    cases tru st x <;> rfl
theorem Es_ok : ∀ (e : Es) (X : Cx) (Wx : WX), XOk W nm T Φ X Wx → ∀ pe, chkEs nm X.N e X.env.scope pe = true → PA X pe (tM W Wx (RpL W) (evs T Φ e))
  | .nil, X, Wx, ok, pe, h => by
    unfold chkEs at h; split at h <;> first | (cases h; done) | skip
    exact p_nil
  | .cons e es, X, Wx, ok, pe, h => by
    unfold chkEs at h; split at h <;> first | (cases h; done) | skip
    simp only [Bool.and_eq_true, Bool.not_eq_true'] at h
    exact p_cons h.1.1 (E_ok e X Wx ok _ h.1.2) (Es_ok es X Wx ok _ h.2)
  | .star e es, X, Wx, ok, pe, h => by
    unfold chkEs at h; split at h <;> first | (cases h; done) | skip
    simp only [Bool.and_eq_true] at h
    exact p_star ok (E_ok e X Wx ok _ h.1) (Es_ok es X Wx ok _ h.2)
theorem It_ok : ∀ (i : It) (X : Cx) (Wx : WX), XOk W nm T Φ X Wx → ∀ tg pe, chkI nm X.N i X.env.scope tg pe = true → PI X tg pe (tM W Wx (RpI W) (evi T Φ i))
  | .seq e, X, Wx, ok, tg, pe, h => by
    unfold chkI at h
    exact i_seq ok (E_ok e X Wx ok _ h)
  | .rng1 e, X, Wx, ok, tg, pe, h => by
    unfold chkI at h; split at h <;> first | (cases h; done) | skip
    simp only [Bool.and_eq_true, decide_eq_true_eq, Bool.not_eq_true'] at h
    obtain ⟨⟨⟨h1, h2⟩, h3⟩, h4⟩ := h
    subst h1
    exact i_rng1 ok h2 h3 (E_ok e X Wx ok _ h4)
  | .rng2 a b, X, Wx, ok, tg, pe, h => by
    unfold chkI at h; split at h <;> first | (cases h; done) | skip
    simp only [Bool.and_eq_true, decide_eq_true_eq, Bool.not_eq_true'] at h
    obtain ⟨⟨⟨⟨⟨h1, h2⟩, h3⟩, h4⟩, h5⟩, h6⟩ := h
    subst h1
    exact i_rng2 ok h2 h3 h4 (E_ok a X Wx ok _ h5) (E_ok b X Wx ok _ h6)
  | .enm e, X, Wx, ok, tg, pe, h => by
    unfold chkI at h; split at h <;> first | (cases h; done) | skip
    simp only [Bool.and_eq_true, decide_eq_true_eq, Bool.not_eq_true'] at h
    obtain ⟨⟨⟨h1, h2⟩, h3⟩, h4⟩ := h
    subst h1
    exact i_enm ok h2 h3 (E_ok e X Wx ok _ h4)
  | .zip a b, X, Wx, ok, tg, pe, h => by
    unfold chkI at h; split at h <;> first | (cases h; done) | skip
    simp only [Bool.and_eq_true, decide_eq_true_eq, Bool.not_eq_true'] at h
    obtain ⟨⟨⟨⟨⟨h1, h2⟩, h3⟩, h4⟩, h5⟩, h6⟩ := h
    subst h1
    exact i_zip ok h2 h3 h4 (E_ok a X Wx ok _ h5) (E_ok b X Wx ok _ h6)
  | .revr1 e, X, Wx, ok, tg, pe, h => by
    unfold chkI at h; split at h <;> first | (cases h; done) | skip
    simp only [Bool.and_eq_true, decide_eq_true_eq, Bool.not_eq_true'] at h
    obtain ⟨⟨⟨⟨⟨h1, h2⟩, h3⟩, h4⟩, h5⟩, h6⟩ := h
    subst h1 h3
    exact i_revr ok h2 h4 h5 (E_ok e X Wx ok _ h6)
end
end
end BR
end
section
set_option Elab.async false
set_option linter.all false
set_option maxRecDepth 100000
set_option maxHeartbeats 4000000
/-! BrSndE: statements. -/
namespace BR
open PySem PySem.Spec PyProof.Rows L2
def SemS (W : Wd) (Wx : WX) (st : Sto) (m : Mp) (H : Hp) (r : SM) (D : Ends) : Prop := match r with
  | none => False
  | some (.ok f env st') => ∀ σ' H' m', Le st m H st' m' H' → RSt W st' m' H' → REnv W st' m' H' σ' env → (match f with | .nx => D.nx σ' H' | .bk => D.bk σ' H' | .ct => D.ct σ' H' | .rt v => ∀ b, Rep W st' m' H' b v → D.rt b H')
  | some (.ex c vs env st') => ∀ d σ' H' m', Le st m H st' m' H' → RSt W st' m' H' → REnv W st' m' H' σ' env → ExR W st' m' H' d c vs → Wx (.ref (W.ca c)) (some d) σ' H'
def tS (W : Wd) (Wx : WX) (f : Env → Sto → SM) : TS := fun D σ H => ∃ env st m, REnv W st m H σ env ∧ RSt W st m H ∧ SemS W Wx st m H (f env st) D
section
variable {W : Wd} {Wx : WX} {st st' : Sto} {m m' : Mp} {H H' : Hp} {r : SM} {D D' : Ends} {σ : L2.St} {env : Env}
theorem SemS.le (h : SemS W Wx st m H r D) (l : Le st m H st' m' H') : SemS W Wx st' m' H' r D := by
  cases r with
  | none => exact h
  | some x =>
    cases x with
    | ok f env st2 => exact fun σ' H2 m2 l2 => h σ' H2 m2 (l.trans l2)
    | ex c vs env st2 => exact fun d σ' H2 m2 l2 => h d σ' H2 m2 (l.trans l2)
theorem SemS.nx (h : SemS W Wx st m H (some (.ok .nx env st)) D) (rs : RSt W st m H) (re : REnv W st m H σ env) : D.nx σ H := h σ H m Le.refl rs re
theorem tM.stp {α β : Type} {Rp : Sto → Mp → Hp → β → α → Prop} {f : Env → Sto → Mo α} {g : α → Sto → SM} {Q : β → Hp → Prop} (re : REnv W st m H σ env) (rs : RSt W st m H) (s : SemS W Wx st m H (stm env (f env st) g) D)
    (k : ∀ b H1 a st1 m1, Le st m H st1 m1 H1 → REnv W st1 m1 H1 σ env → RSt W st1 m1 H1 → Rp st1 m1 H1 b a → SemS W Wx st1 m1 H1 (g a st1) D → Q b H1) : tM W Wx Rp f σ H Q := by
  refine ⟨env, st, m, re, rs, ?_⟩
  cases e : f env st with
  | none => rw [e] at s; exact s
  | some x =>
    rw [e] at s
    cases x with
    | ok a st1 => exact fun b H1 m1 l1 rs1 p => k b H1 a st1 m1 l1 (re.le l1) rs1 p (SemS.le (r := g a st1) s l1)
    | ex c vs st1 => exact fun d H1 m1 l1 rs1 x => s d σ H1 m1 l1 rs1 (re.le l1) x
theorem PS.imp {X : Cx} {e : Stmt} {t t' : TS} (h : PS X e t) (k : ∀ D σ H, t' D σ H → t D σ H) : PS X e t' := ⟨fun pins s σ H D I q => h.run pins s σ H D I (k D σ H q)⟩
theorem PSs.imp {X : Cx} {e : List Stmt} {t t' : TS} (h : PSs X e t) (k : ∀ D σ H, t' D σ H → t D σ H) : PSs X e t' := ⟨fun pins s σ H D I q => h.run pins s σ H D I (k D σ H q)⟩
/-! ### the store is written -/
theorem own_set {n : Nat} {c c' : Cell} {a : Addr} (e : st[n]? = some c) (lv : live c) (h : Own (st.set n c') m a) : Own st m a := by
  rcases h with ⟨i, c1, e1, v1, q⟩ | h
  · by_cases z : i = n
    · subst z
      exact .inl ⟨i, c, e, lv, q⟩
    · rw [List.getElem?_set_ne (Ne.symm z)] at e1
      exact .inl ⟨i, c1, e1, v1, q⟩
  · exact .inr h
theorem Le.write {n : Nat} {c c' : Cell} {o : HO} (rs : RSt W st m H) (e : st[n]? = some c) (lv : live c) : Le st m H (st.set n c') m (upd H (m n) o) :=
  ⟨⟨by simp, fun _ _ => rfl, fun a u e1 k => ⟨by rw [upd_ne (fun z => k (.inl ⟨n, c, e, lv, z.symm⟩))]; exact e1, fun z => k (own_set e lv z)⟩⟩, rfl, fun a ha => upd_ne (fun z => rs.hinj n c e lv (by rw [← z]; exact ha))⟩
theorem RSt.write {n : Nat} {c c' : Cell} {o : HO} (rs : RSt W st m H) (e : st[n]? = some c) (lv : live c) (hc : CellR W (st.set n c') m (upd H (m n) o) (m n) c') : RSt W (st.set n c') m (upd H (m n) o) := by
  have hl := (List.getElem?_eq_some_iff.mp e).1
  have cs : ∀ {i c1}, (st.set n c')[i]? = some c1 → (i = n ∧ c1 = c') ∨ (i ≠ n ∧ st[i]? = some c1) := fun {i c1} e1 => by
    by_cases z : i = n
    · subst z
      rw [List.getElem?_set_self hl] at e1
      cases e1
      exact .inl ⟨rfl, rfl⟩
    · rw [List.getElem?_set_ne (Ne.symm z)] at e1
      exact .inr ⟨z, e1⟩
  refine ⟨fun i c1 e1 => ?_, fun i j c1 c2 e1 e2 v1 v2 q => ?_, fun a ha => ?_, fun i c1 e1 v1 z => ?_⟩
  · rcases cs e1 with ⟨rfl, rfl⟩ | ⟨hne, e1⟩
    · exact hc
    · by_cases v1 : live c1
      · exact (rs.cell i c1 e1).le (Le.write (W := W) rs e lv) (upd_ne (fun z => hne (rs.inj i n c1 c e1 e v1 lv z)))
      · cases c1 <;> first | trivial | exact absurd trivial v1
  · rcases cs e1 with ⟨rfl, rfl⟩ | ⟨h1, f1⟩ <;> rcases cs e2 with ⟨rfl, rfl⟩ | ⟨h2, f2⟩
    · rfl
    · exact rs.inj i j c c2 e f2 lv v2 q
    · exact rs.inj i j c1 c f1 e v1 lv q
    · exact rs.inj i j c1 c2 f1 f2 v1 v2 q
  · obtain ⟨u, e1, mu⟩ := rs.hid a ha
    exact ⟨u, by rw [upd_ne (fun z => rs.hinj n c e lv (by rw [← z]; exact ha))]; exact e1, mu⟩
  · rcases cs e1 with ⟨rfl, rfl⟩ | ⟨h1, f1⟩
    · exact rs.hinj i c e lv z
    · exact rs.hinj i c1 f1 v1 z
end
section
variable {W : Wd} {nm : Nms} {T : Tab} {Φ : Phi} {X : Cx} {Wx : WX} {fa fb fc : Env → Sto → Mo PV} {ga : Env → Sto → Mo Bool} {a b c e : Expr} {es : List Expr} {pos pos' pos2 : Pos} {xs ys : List Stmt} {ea eb : Env → Sto → SM}
theorem sw_no {e : Expr} {t : Option Expr} {l : Nat} {env : PySem.Env} (h : isLc e = false) : swapsWith e t l env = pure false := by
  unfold swapsWith
  cases e <;> first | rfl | (exfalso; simp [isLc] at h; done)
theorem sole_no {t e : Expr} {l : Nat} {env : PySem.Env} (h : isLc e = false) : swapsWithSole [t] e l env = pure false := by
  unfold swapsWithSole
  exact sw_no h
theorem ss_no {ts : List Expr} {k : Nat} {p : Pos} {e : Expr} {env : PySem.Env} (h : isTupE e = false) : swappedStores [.Tuple ts k p] e env = pure none := by
  unfold swappedStores
  cases e <;> first | (exfalso; simp [isTupE] at h; done) | skip
  all_goals rfl
theorem s_skip {st : Stmt} (h : PS X st tNext) : PS X st (tS W Wx fun env st => some (.ok .nx env st)) :=
  PS.imp h fun D σ H ⟨env, st, m, re, rs, s⟩ => s.nx rs re
theorem s_set (ok : XOk W nm T Φ X Wx) {i : Nat} {x : Str} (hl : isLc e = false) (hN : X.N[i]? = some x) (hx : Loc X.env.scope x) (hf : X.fn x = true ∨ X.env.scope.names.lookup x = some .local) (he : PE X e (tM W Wx (RpV W) fa)) :
    PS X (.Assign [.Name x pos'] e pos) (tS W Wx fun env st => stm env (fa env st) fun v st => match asg (.nm i) v env with
      | some env => some (.ok .nx env st)
      | none => none) :=
  PS.imp (ps_set ok.nd hN hx he (sw_no hl) hf) fun D σ H ⟨env, st, m, re, rs, s⟩ =>
    tM.stp re rs s fun v H1 x st1 m1 l1 re1 rs1 r1 s1 => SemS.nx s1 rs1 (re1.set r1 i)
theorem s_setT (ok : XOk W nm T Φ X Wx) {ts : Tgs} {k : Nat} (hl : isLc e = false) (ht : isTupE e = false) (hg : PG X (.Tuple es k pos') (gt X.K (.tup ts))) (he : PE X e (tM W Wx (RpV W) fa)) :
    PS X (.Assign [.Tuple es k pos'] e pos) (tS W Wx fun env st => stm env (fa env st) fun v st => match asg (.tup ts) v env with
      | some env => some (.ok .nx env st)
      | none => none) :=
  PS.imp (ps_asg he hg (sole_no hl) (ss_no ht) rfl) fun D σ H ⟨env, st, m, re, rs, s⟩ =>
    tM.stp re rs s fun v H1 x st1 m1 l1 re1 rs1 r1 s1 => by
      cases ea : asg (.tup ts) x env with
      | none => rw [ea] at s1; exact s1.elim
      | some env' =>
        rw [ea] at s1
        rw [ok.K]
        exact gt_ok (own := []) rs1 (.tup ts) σ env env' v x _ re1 r1 ea fun σ' re' _ => SemS.nx s1 rs1 re'
theorem s_ex (hl : isLc e = false) (he : PE X e (tM W Wx (RpV W) fa)) : PS X (.Expr e pos) (tS W Wx fun env st => stm env (fa env st) fun _ st => some (.ok .nx env st)) :=
  PS.imp (ps_expr he (sw_no hl)) fun D σ H ⟨env, st, m, re, rs, s⟩ =>
    tM.stp re rs s fun v H1 x st1 m1 l1 re1 rs1 r1 s1 => SemS.nx s1 rs1 re1
theorem s_ret (he : PE X e (tM W Wx (RpV W) fa)) : PS X (.Return (some e) pos) (tS W Wx fun env st => stm env (fa env st) fun v st => some (.ok (.rt v) env st)) :=
  PS.imp (ps_ret he) fun D σ H ⟨env, st, m, re, rs, s⟩ =>
    tM.stp re rs s fun v H1 x st1 m1 l1 re1 rs1 r1 s1 => s1 σ H1 m1 Le.refl rs1 re1 v r1
theorem s_retn : PS X (.Return none pos) (tS W Wx fun env st => some (.ok (.rt .non) env st)) :=
  PS.imp ps_retN fun D σ H ⟨env, st, m, re, rs, s⟩ => s σ H m Le.refl rs re .non .non
theorem s_brk : PS X (.Break pos) (tS W Wx fun env st => some (.ok .bk env st)) :=
  PS.imp ps_break fun D σ H ⟨env, st, m, re, rs, s⟩ => s σ H m Le.refl rs re
theorem s_cont : PS X (.Continue pos) (tS W Wx fun env st => some (.ok .ct env st)) :=
  PS.imp ps_continue fun D σ H ⟨env, st, m, re, rs, s⟩ => s σ H m Le.refl rs re
theorem s_if (hc : PT X c (tM W Wx RpB ga)) (ha : PSs X xs (tS W Wx ea)) (hb : PSs X ys (tS W Wx eb)) :
    PS X (.If c xs ys pos) (tS W Wx fun env st => stm env (ga env st) fun r st => match r with
      | true => ea env st
      | false => eb env st) :=
  PS.imp (ps_if hc ha hb) fun D σ H ⟨env, st, m, re, rs, s⟩ =>
    tM.stp re rs s fun v H1 x st1 m1 l1 re1 rs1 r1 s1 => by
      cases r1
      cases v with
      | true => exact ⟨env, st1, m1, re1, rs1, s1⟩
      | false => exact ⟨env, st1, m1, re1, rs1, s1⟩
theorem s_seq {s : Stmt} (ha : PS X s (tS W Wx ea)) (hb : PSs X xs (tS W Wx eb)) : PSs X (s :: xs) (tS W Wx fun env st => sq (ea env st) fun env st => eb env st) :=
  PSs.imp (pss_cons ha hb) fun D σ H ⟨env, st, m, re, rs, s⟩ => by
    refine ⟨env, st, m, re, rs, ?_⟩
    simp only at s
    cases e : ea env st with
    | none => rw [e] at s; exact s
    | some x =>
      rw [e] at s
      cases x with
      | ex c vs env2 st2 => exact s
      | ok f env2 st2 =>
        cases f with
        | nx => exact fun σ' H' m' l rs' re' => ⟨env2, st2, m', re', rs', SemS.le (r := eb env2 st2) s l⟩
        | bk => exact s
        | ct => exact s
        | rt v => exact s
/-! loops -/
theorem semS_turn {st : Sto} {m : Mp} {H : Hp} {r : SM} {k : Env → Sto → SM} {D : Ends} {N : L2.St → Hp → Prop} (h : SemS W Wx st m H (match r with
      | some (.ok .nx env st) => k env st
      | some (.ok .ct env st) => k env st
      | some (.ok .bk env st) => some (.ok .nx env st)
      | r => r) D) (hN : ∀ σ' H' m' env' st', Le st m H st' m' H' → RSt W st' m' H' → REnv W st' m' H' σ' env' → SemS W Wx st' m' H' (k env' st') D → N σ' H') :
    SemS W Wx st m H r { D with nx := N, ct := N, bk := D.nx } := by
  cases r with
  | none => exact h
  | some x =>
    cases x with
    | ex c vs env2 st2 => exact h
    | ok f env2 st2 =>
      cases f with
      | nx => exact fun σ' H' m' l rs' re' => hN σ' H' m' env2 st2 l rs' re' (SemS.le (r := k env2 st2) h l)
      | bk => exact h
      | ct => exact fun σ' H' m' l rs' re' => hN σ' H' m' env2 st2 l rs' re' (SemS.le (r := k env2 st2) h l)
      | rt v => exact h
theorem s_for {t : Tg} {tg iter : Expr} {fi : Env → Sto → Mo (List PV × Option (Nat × List PV))} (ok : XOk W nm T Φ X Wx) (hp : PassesOwn (model X.prog X.w) X.A X.env X.xe) (hs : isSetE iter = false) (hi : PI X tg iter (tM W Wx (RpI W) fi)) (hg : PG X tg (gt X.K t)) (hb : PSs X xs (tS W Wx ea)) :
    PS X (.For tg iter xs [] pos) (tS W Wx fun env st => stm env (fi env st) fun p st => forL (gok p.2) (fun v env st => match asg t v env with
      | some env => ea env st
      | none => none) p.1 env st) := by
  refine PS.imp (ps_for hp ok.calm hi hg hb (folded hs)) fun D σ H ⟨env, st, m, re, rs, s⟩ => ?_
  refine tM.stp re rs s fun J H1 p st1 m1 l1 re1 rs1 hJ s1 => ?_
  obtain ⟨hJ, _⟩ := hJ
  refine ⟨fun i k σ' H' => k = p.1.length - i ∧ i ≤ p.1.length ∧ ∃ env2 st2 m2, Le0 st1 m1 H1 st2 m2 H' ∧ RSt W st2 m2 H' ∧ REnv W st2 m2 H' σ' env2 ∧ SemS W Wx st2 m2 H' (forL (gok p.2) (fun v env st => match asg t v env with
      | some env => ea env st
      | none => none) (p.1.drop i) env2 st2) D, ⟨p.1.length, by simp, Nat.zero_le _, env, st1, m1, Le0.refl, rs1, re1, s1⟩, ?_⟩
  rintro i k σ2 H2 ⟨rfl, hle, env2, st2, m2, l2, rs2, re2, s2⟩
  by_cases hi : i < p.1.length
  · obtain ⟨v, hv'⟩ : ∃ v, p.1[i]? = some v := ⟨_, List.getElem?_eq_getElem hi⟩
    have hdrop : p.1.drop i = v :: p.1.drop (i + 1) := by
      rw [List.drop_eq_getElem_cons hi]
      have e := List.getElem?_eq_getElem hi
      rw [hv'] at e
      rw [Option.some.inj e]
    rw [hdrop] at s2
    simp only [forL] at s2
    split at s2
    · rename_i hg
      obtain ⟨hgo, _⟩ := hJ st2 m2 H2 l2 rs2 hg
      obtain ⟨go, hy⟩ := hgo i v hv'
      refine .inr ⟨go, fun σ' H' => (i + 1 ≤ p.1.length ∧ ∃ env2 st2 m2, Le0 st1 m1 H1 st2 m2 H' ∧ RSt W st2 m2 H' ∧ REnv W st2 m2 H' σ' env2 ∧ SemS W Wx st2 m2 H' (forL (gok p.2) (fun v env st => match asg t v env with
        | some env => ea env st
        | none => none) (p.1.drop (i + 1)) env2 st2) D), fun σ' H' h => ⟨p.1.length - (i + 1), by omega, rfl, h⟩, fun x H' y => ?_⟩
      obtain ⟨ly, rsy, ry⟩ := hy x H' y
      cases ea' : asg t v env2 with
      | none => simp only [ea'] at s2; exact s2.elim
      | some env3 =>
        simp only [ea'] at s2
        rw [ok.K]
        refine gt_ok (own := []) rsy t σ2 env2 env3 x v _ (re2.le ly) ry ea' fun σ3 re3 _ => ?_
        refine ⟨env3, st2, m2, re3, rsy, ?_⟩
        refine semS_turn (SemS.le s2 ly) fun σ' H3 m3 env' st' l3 rs3 re3 s3 => ?_
        exact ⟨hi, env', st', m3, l2.trans (ly.trans l3).toLe0, rs3, re3, s3⟩
    · exact s2.elim
  · have hn : i = p.1.length := by omega
    subst hn
    rw [List.drop_length] at s2
    simp only [forL] at s2
    split at s2
    · rename_i hg
      obtain ⟨_, hstop⟩ := hJ st2 m2 H2 l2 rs2 hg
      exact .inl ⟨hstop, SemS.nx s2 rs2 re2⟩
    · exact s2.elim
theorem whL_some {c : Env → Sto → Mo Bool} {b : Env → Sto → SM} {env : Env} {st : Sto} {r : SRe} (h : whL c b env st = some r) : ∃ n, whN c b n env st = some r := by
  unfold whL at h
  split at h
  · rename_i hx
    cases h
    exact hx.choose_spec
  · cases h
theorem s_while (ok : XOk W nm T Φ X Wx) (hp : PassesOwn (model X.prog X.w) X.A X.env X.xe) (hc : PT X c (tM W Wx RpB ga)) (hb : PSs X xs (tS W Wx ea)) : PS X (.While c xs [] pos) (tS W Wx fun env st => whL ga ea env st) := by
  refine PS.imp (ps_while hp hc hb) fun D σ H ⟨env, st, m, re, rs, s⟩ => ?_
  simp only at s
  cases e : whL ga ea env st with
  | none => rw [e] at s; exact s.elim
  | some r =>
    obtain ⟨n, hn⟩ := whL_some e
    rw [e, ← hn] at s
    refine ⟨fun n σ' H' => ∃ env2 st2 m2, RSt W st2 m2 H' ∧ REnv W st2 m2 H' σ' env2 ∧ SemS W Wx st2 m2 H' (whN ga ea n env2 st2) D, ⟨n, env, st, m, rs, re, s⟩, ?_⟩
    rintro n σ2 H2 ⟨env2, st2, m2, rs2, re2, s2⟩
    cases n with
    | zero => exact s2.elim
    | succ n =>
      simp only [whN] at s2
      refine ⟨env2, st2, m2, re2, rs2, ?_⟩
      cases eg : ga env2 st2 with
      | none => rw [eg] at s2; exact s2
      | some x =>
        rw [eg] at s2
        cases x with
        | ex c vs st3 => exact fun d H' m' l rs' x => s2 d σ2 H' m' l rs' (re2.le l) x
        | ok r st3 =>
          intro b H3 m3 l3 rs3 hb
          cases hb
          cases r with
          | false => exact s2 σ2 H3 m3 l3 rs3 (re2.le l3)
          | true =>
            refine ⟨fun σ' H' => ∃ env2 st2 m2, RSt W st2 m2 H' ∧ REnv W st2 m2 H' σ' env2 ∧ SemS W Wx st2 m2 H' (whN ga ea n env2 st2) D, fun σ' H' h => ⟨n, Nat.lt_succ_self _, h⟩, env2, st3, m3, re2.le l3, rs3, ?_⟩
            exact semS_turn (SemS.le s2 l3) fun σ' H4 m4 env' st' l4 rs4 re4 s4 => ⟨env', st', m4, rs4, re4, s4⟩
end
end BR
end
section
set_option Elab.async false
set_option linter.all false
set_option maxRecDepth 100000
set_option maxHeartbeats 4000000
/-! BrSndF: what is changed in place. -/
namespace BR
open PySem PySem.Spec PyProof.Rows L2
section
variable {X : Cx} {o i value : Expr} {pos pos' : Pos} {ta td ty tv : TE}
/-- o[i] = value, o a list or a dict -/
theorem ps_setA (hu : X.A.units + 1 < cLine) (ho : PE X o td) (hi : PE X i ty) (hv : PE X value tv) (hs : swapsWith value (some (.Subscript o i pos')) pos.line X.env = pure false) :
    PS X (.Assign [.Subscript o i pos'] value pos) (fun D σ H => tv σ H fun v H1 => td σ H1 fun x H2 => ty σ H2 fun y H3 => rSetL x y v H3 (D.nx σ) ∨ ∃ a H4, x = .ref a ∧ DPut H3 a y v H4 ∧ D.nx σ H4) := by
  refine ⟨fun pins s σ H D I h => ?_⟩
  refine wpAny_Assign_Subscript (thn (hv.run pins s σ H _ I h) fun r s1 ⟨v, H1, I1, rv, q1⟩ => thn (ho.run pins s1 σ H1 _ I1 q1) fun u s2 ⟨x, H2, I2, rx, q2⟩ => thn (hi.run pins s2 σ H2 _ I2 q2) fun iv s3 ⟨y, H3, I3, ry, q3⟩ => ?_) hs
  rcases q3 with q3 | ⟨a, H4, ex, g, q3⟩
  · exact thn (set_list pins s3 σ H3 x y v u iv r _ I3 rx ry rv q3) fun _ s4 ⟨H4, I4, q4⟩ => ⟨σ, H4, I4, q4⟩
  · subst ex
    obtain rfl : u = Value.ref a := rx
    exact d_setItem hu I3 g ry rv fun s4 I4 => ⟨σ, H4, I4, q3⟩
end
section
variable {W : Wd} {st : Sto} {m : Mp} {H : Hp}
theorem put_keys (k : Key) (v : V) (kvs : List (Key × V)) : (L2.putK kvs k v).map (·.1) = BR.putK k (kvs.map (·.1)) := by
  have h : (kvs.map (·.1)).any (fun j => decide (j = k)) = kvs.any fun kv => decide (kv.1 = k) := by rw [List.any_map]; rfl
  simp only [L2.putK, BR.putK, h]
  split
  · rw [List.map_map]
    refine List.map_congr_left fun kv _ => ?_
    show (if kv.1 = k then (kv.1, v) else kv).1 = kv.1
    split <;> rfl
  · simp
theorem rep_vals (k : Key) {v : V} {x : PV} (r : Rep W st m H v x) : ∀ {kvs : List (Key × V)} {xs : List PV}, RepL W st m H (kvs.map (·.2)) xs → RepL W st m H ((kvs.map fun kv => if kv.1 = k then (kv.1, v) else kv).map (·.2)) (repV k x (kvs.map (·.1)) xs)
  | [], xs, q => by
    cases q
    exact .nil
  | p :: t, xs, q => by
    cases q with
    | cons r1 q =>
      simp only [List.map_cons, repV]
      refine .cons ?_ (rep_vals k r q)
      by_cases h : p.1 = k
      · rw [if_pos h, if_pos h]; exact r
      · rw [if_neg h, if_neg h]; exact r1
theorem put_vals (k : Key) {v : V} {x : PV} (r : Rep W st m H v x) {kvs : List (Key × V)} {xs : List PV} (q : RepL W st m H (kvs.map (·.2)) xs) : RepL W st m H ((L2.putK kvs k v).map (·.2)) (putV k x (kvs.map (·.1)) xs) := by
  have h : (kvs.map (·.1)).any (fun j => decide (j = k)) = kvs.any fun kv => decide (kv.1 = k) := by rw [List.any_map]; rfl
  simp only [L2.putK, putV, h]
  split
  · exact rep_vals k r q
  · rw [List.map_append]
    exact q.append (.cons r .nil)
theorem putF_keys (inj : ∀ i j, W.sym i = W.sym j → i = j) (f : Nat) (v : V) : ∀ {fv : List (Str × V)} {fs : List Nat}, fv.map (·.1) = fs.map W.sym → (putF (W.sym f) v fv).map (·.1) = (putFs f fs).map W.sym
  | [], [], _ => rfl
  | [], _ :: _, e => by cases e
  | _ :: _, [], e => by cases e
  | (x, w) :: fv, g :: fs, e => by
    simp only [List.map_cons, List.cons.injEq] at e
    simp only [putF, putFs]
    by_cases h : g = f
    · rw [if_pos h, if_pos (by rw [e.1, h])]
      simp [e.1, e.2, h]
    · rw [if_neg h, if_neg (fun z => h (inj _ _ (by rw [← e.1, z])))]
      simp [e.1, putF_keys inj f v e.2]
theorem putF_vals (inj : ∀ i j, W.sym i = W.sym j → i = j) (f : Nat) {v : V} {x : PV} (r : Rep W st m H v x) : ∀ {fv : List (Str × V)} {fs : List Nat} {xs : List PV}, fv.map (·.1) = fs.map W.sym → RepL W st m H (fv.map (·.2)) xs → RepL W st m H ((putF (W.sym f) v fv).map (·.2)) (putFv f x fs xs)
  | [], [], xs, _, q => by
    cases q
    exact .cons r .nil
  | [], _ :: _, _, e, _ => by cases e
  | _ :: _, [], _, e, _ => by cases e
  | (y, w) :: fv, g :: fs, xs, e, q => by
    simp only [List.map_cons, List.cons.injEq] at e
    cases q with
    | cons r1 q =>
      simp only [putF, putFv]
      by_cases h : g = f
      · rw [if_pos h, if_pos (by rw [e.1, h])]
        exact .cons r q
      · rw [if_neg h, if_neg (fun z => h (inj _ _ (by rw [← e.1, z])))]
        exact .cons r1 (putF_vals inj f r e.2 q)
end
section
variable {W : Wd} {nm : Nms} {T : Tab} {Φ : Phi} {X : Cx} {Wx : WX} {fa fb fc : Env → Sto → Mo PV} {a b c e : Expr} {es : List Expr} {pos pos' pos2 : Pos}
theorem hfew1 (e : Expr) (env : PySem.Env) (cpos : Pos) (he : isStar e = false) : ((backTo cpos (starEach [e] env)).all (fun x => !x.1) && (backToKw cpos (keywordEach [] env)).all (fun x => x.1.isSome)
      && decide (([e] : List Expr).length + ([] : List Keyword).length + (if ([] : List Keyword).isEmpty then 0 else 1) < 30)) = true := by
  rw [star_no he]; rfl
theorem isCL_ref {W : Wd} {st : Sto} {m : Mp} {H : Hp} {v : V} {x : PV} (rs : RSt W st m H) (r : Rep W st m H v x) (h : isCL st x = true) : ∃ n xs vs, x = .ref n ∧ st[n]? = some (.lst xs) ∧ v = .ref (m n) ∧ H (m n) = some (.lst vs) ∧ RepL W st m H vs xs := by
  cases r <;> first | (exfalso; simp [isCL] at h; done) | skip
  rename_i n hn
  simp only [isCL] at h
  cases e : st[n]? with
  | none => rw [e] at h; cases h
  | some c =>
    rw [e] at h
    cases c <;> first | (cases h; done) | skip
    obtain ⟨vs, e1, z, q⟩ := rs.cell n _ e
    exact ⟨n, _, vs, rfl, e, rfl, e1, q⟩
theorem s_app (ok : XOk W nm T Φ X Wx) (hp : (pos'.endLine == pos2.line) = true) (hsup : noSup a = true) (he : isStar e = false) (ha : PE X a (tM W Wx (RpV W) fa)) (hb : PE X e (tM W Wx (RpV W) fb)) :
    PS X (.Expr (.Call (.Attribute a "append" pos') [e] [] pos2) pos) (tS W Wx fun env st => stm env (fa env st) fun x st => if isCL st x = true then stm env (fb env st) fun v st => appP env st x v else none) :=
  PS.imp (ps_expr (pe_bm F.plainAttrs_list F.slot_list_append F.type_list_append (r := rAppend) mt_append ha (pa_cons hb pa_nil (star_no he)) (abase hsup) (hfew1 e X.env pos2 he) hp (star_no he) rfl) rfl) fun D σ H ⟨env, st, m, re, rs, s⟩ =>
    tM.stp re rs s fun v H1 x st1 m1 l1 re1 rs1 r1 s1 => by
      split at s1
      · rename_i hc
        obtain ⟨n, xs, vs, rfl, hn, rfl, hH, q⟩ := isCL_ref rs1 r1 hc
        refine ⟨.inl ⟨rfl, vs, by rw [ok.K]; exact SqL.of hH⟩, tM.stp re1 rs1 s1 fun u H2 y st2 m2 l2 re2 rs2 r2 s2 => ?_⟩
        have hm : m2 n = m1 n := l2.map n (List.getElem?_eq_some_iff.mp hn).1
        simp only [appP] at s2
        cases e2 : st2[n]? with
        | none => rw [e2] at s2; exact s2.elim
        | some c2 =>
          rw [e2] at s2
          cases c2 <;> first | (exact s2.elim) | skip
          rename_i zs
          simp only at s2
          split at s2
          · rename_i hz
            obtain ⟨ws, e3, z3, q3⟩ := rs2.cell n _ e2
            have lw : Le st2 m2 H2 (st2.set n (.lst (zs ++ [y]))) m2 (upd H2 (m2 n) (.lst (ws ++ [u]))) := Le.write (W := W) rs2 e2 trivial
            refine ⟨m1 n, ws, u, rfl, rfl, by rw [← hm]; exact e3, by rw [q3.length]; exact hz, ?_⟩
            rw [← hm]
            refine s2 σ _ m2 lw (rs2.write e2 trivial ⟨_, upd_same, by rw [List.length_append]; exact hz, (q3.append (.cons r2 .nil)).le lw⟩) (re2.le lw)
          · exact s2.elim
      · exact s1.elim
theorem s_ext (ok : XOk W nm T Φ X Wx) (hp : (pos'.endLine == pos2.line) = true) (hsup : noSup a = true) (he : isStar e = false) (ha : PE X a (tM W Wx (RpV W) fa)) (hb : PE X e (tM W Wx (RpV W) fb)) :
    PS X (.Expr (.Call (.Attribute a "extend" pos') [e] [] pos2) pos) (tS W Wx fun env st => stm env (fa env st) fun x st => if isCL st x = true then stm env (fb env st) fun v st => extP env st x v else none) :=
  PS.imp (ps_expr (pe_bm F.plainAttrs_list F.slot_list_extend F.type_list_extend (r := rExtend) mt_extend ha (pa_cons hb pa_nil (star_no he)) (abase hsup) (hfew1 e X.env pos2 he) hp (star_no he) rfl) rfl) fun D σ H ⟨env, st, m, re, rs, s⟩ =>
    tM.stp re rs s fun v H1 x st1 m1 l1 re1 rs1 r1 s1 => by
      split at s1
      · rename_i hc
        obtain ⟨n, xs, vs, rfl, hn, rfl, hH, q⟩ := isCL_ref rs1 r1 hc
        refine ⟨.inl ⟨rfl, vs, by rw [ok.K]; exact SqL.of hH⟩, tM.stp re1 rs1 s1 fun u H2 y st2 m2 l2 re2 rs2 r2 s2 => ?_⟩
        have hm : m2 n = m1 n := l2.map n (List.getElem?_eq_some_iff.mp hn).1
        cases y <;> first | (exact s2.elim) | skip
        rename_i ys
        obtain ⟨p, us, rfl, hp, _, qy, zy⟩ := r2.lst_inv
        simp only [extP] at s2
        cases e2 : st2[n]? with
        | none => rw [e2] at s2; exact s2.elim
        | some c2 =>
          rw [e2] at s2
          cases c2 <;> first | (exact s2.elim) | skip
          rename_i zs
          simp only at s2
          split at s2
          · rename_i hz
            obtain ⟨ws, e3, z3, q3⟩ := rs2.cell n _ e2
            have lw : Le st2 m2 H2 (st2.set n (.lst (zs ++ ys))) m2 (upd H2 (m2 n) (.lst (ws ++ us))) := Le.write (W := W) rs2 e2 trivial
            refine ⟨m1 n, p, ws, us, rfl, rfl, by rw [← hm]; exact e3, hp, by rw [q3.length, qy.length]; exact hz, ?_⟩
            rw [← hm]
            refine s2 σ _ m2 lw (rs2.write e2 trivial ⟨_, upd_same, by rw [List.length_append]; exact hz, (q3.append qy).le lw⟩) (re2.le lw)
          · exact s2.elim
      · exact s1.elim
theorem s_six (ok : XOk W nm T Φ X Wx) (hl : isLc c = false) (hc : PE X c (tM W Wx (RpV W) fc)) (ha : PE X a (tM W Wx (RpV W) fa)) (hb : PE X b (tM W Wx (RpV W) fb)) :
    PS X (.Assign [.Subscript a b pos'] c pos) (tS W Wx fun env st => stm env (fc env st) fun v st => stm env (fa env st) fun x st => stm env (fb env st) fun y st => sixP env st x y v) :=
  PS.imp (ps_setA (by have := ok.units; omega) ha hb hc (sw_no hl)) fun D σ H ⟨env, st, m, re, rs, s⟩ =>
    tM.stp re rs s fun v H1 x st1 m1 l1 re1 rs1 r1 s1 => tM.stp re1 rs1 s1 fun v2 H2 x2 st2 m2 l2 re2 rs2 r2 s2 => tM.stp re2 rs2 s2 fun v3 H3 x3 st3 m3 l3 re3 rs3 r3 s3 => by
      have q1 := r1.le (l2.trans l3)
      have q2 := r2.le l3
      cases x2 <;> first | (exact s3.elim) | skip
      rename_i n
      cases q2 with
      | ref hn =>
      simp only [sixP] at s3
      cases e3 : st3[n]? with
      | none => rw [e3] at s3; exact s3.elim
      | some cl =>
        rw [e3] at s3
        cases cl <;> first | (exact s3.elim) | skip
        · rename_i zs
          simp only at s3
          cases x3 <;> first | (exact s3.elim) | skip
          rename_i k
          cases r3
          simp only at s3
          obtain ⟨ws, e4, z4, q4⟩ := rs3.cell n _ e3
          cases ei : ixN zs.length k with
          | none => rw [ei] at s3; exact s3.elim
          | some j =>
            rw [ei] at s3
            have lw : Le st3 m3 H3 (st3.set n (.lst (zs.set j x))) m3 (upd H3 (m3 n) (.lst (ws.set j v))) := Le.write (W := W) rs3 e3 trivial
            refine .inl ⟨m3 n, ws, k, j, rfl, rfl, e4, by rw [q4.length]; exact ei, ?_⟩
            exact s3 σ _ m3 lw (rs3.write e3 trivial ⟨_, upd_same, by rw [List.length_set]; exact z4, (q4.set q1 j).le lw⟩) (re3.le lw)
        · rename_i ks us
          simp only at s3
          obtain ⟨kvs, e4, rfl, q4⟩ := rs3.cell n _ e3
          cases ek : keyOf x3 with
          | none => rw [ek] at s3; exact s3.elim
          | some k =>
            rw [ek] at s3
            simp only at s3
            split at s3
            · rename_i hz
              obtain rfl := keyOf_rep r3 ek
              rw [List.length_map] at hz
              have lw : Le st3 m3 H3 (st3.set n (.dct (BR.putK k (kvs.map (·.1))) (putV k x (kvs.map (·.1)) us))) m3 (upd H3 (m3 n) (.dK (L2.putK kvs k v))) := Le.write (W := W) rs3 e3 trivial
              refine .inr ⟨m3 n, _, rfl, .k e4 hz, ?_⟩
              exact s3 σ _ m3 lw (rs3.write e3 trivial ⟨_, upd_same, put_keys k v kvs, (put_vals k q1 q4).le lw⟩) (re3.le lw)
            · exact s3.elim
theorem s_sfl (ok : XOk W nm T Φ X Wx) {f : Nat} (hl : isLc c = false) (hc : PE X c (tM W Wx (RpV W) fc)) (ha : PE X a (tM W Wx (RpV W) fa)) :
    PS X (.Assign [.Attribute a (W.sym f) pos'] c pos) (tS W Wx fun env st => stm env (fc env st) fun v st => stm env (fa env st) fun x st => sflP T.att f env st x v) :=
  PS.imp (ps_fld ha hc (sw_no hl)) fun D σ H ⟨env, st, m, re, rs, s⟩ =>
    tM.stp re rs s fun v H1 x st1 m1 l1 re1 rs1 r1 s1 => tM.stp re1 rs1 s1 fun v2 H2 x2 st2 m2 l2 re2 rs2 r2 s2 => by
      have q1 := r1.le l2
      cases x2 <;> first | (exact s2.elim) | skip
      rename_i n
      cases r2 with
      | ref hn =>
      simp only [sflP] at s2
      cases e3 : st2[n]? with
      | none => rw [e3] at s2; exact s2.elim
      | some cl =>
        rw [e3] at s2
        cases cl <;> first | (exact s2.elim) | skip
        rename_i cc fs us
        simp only at s2
        split at s2
        · rename_i hz
          obtain ⟨dx, fv, e4, e5, q4⟩ := rs2.cell n _ e3
          obtain ⟨c1, c2⟩ := ok.att _ _ hz.2
          have lw : Le st2 m2 H2 (st2.set n (.obj cc (putFs f fs) (putFv f x fs us))) m2 (upd H2 (m2 n) (.ins (W.ca cc) dx (putF (W.sym f) v fv))) := Le.write (W := W) rs2 e3 trivial
          have hlen : fv.length = fs.length := by
            have := congrArg List.length e5
            simpa using this
          refine ⟨m2 n, W.ca cc, dx, fv, rfl, e4, c1, c2, by rw [hlen]; exact hz.1, ?_⟩
          exact s2 σ _ m2 lw (rs2.write e3 trivial ⟨dx, _, upd_same, putF_keys ok.inj f v e5, (putF_vals ok.inj f q1 e5 q4).le lw⟩) (re2.le lw)
        · exact s2.elim
end
end BR
end
section
set_option Elab.async false
set_option linter.all false
set_option maxRecDepth 100000
set_option maxHeartbeats 4000000
/-! BrSndG: a checked statement does what the evaluator says. -/
namespace BR
open PySem PySem.Spec PyProof.Rows L2
/-- what statements need beside -/
structure SOk (W : Wd) (nm : Nms) (T : Tab) (Φ : Phi) (X : Cx) (Wx : WX) : Prop extends XOk W nm T Φ X Wx where
  pown : PassesOwn (model X.prog X.w) X.A X.env X.xe
  fn1 : ∀ x, X.fn x = true
  rai : ∀ (c : Nat) (es : Es) (y : Expr) (ys : List Expr) (p1 p2 pos : Pos), nm.isr c = true → glB X.env.scope (W.sym c) = true → nb (W.sym c) = true → chkEs nm X.N es X.env.scope (y :: ys) = true → (y :: ys).any isStar = false → ys = [] →
    PS X (.Raise (some (.Call (.Name (W.sym c) p1) (y :: ys) [] p2)) none pos) (tS W Wx fun env st => stm env (evs T Φ es env st) fun vs st => some (.ex c vs env st))
section
variable {W : Wd} {nm : Nms} {T : Tab} {Φ : Phi}
/-- try .. except: told of any context that the body may run in -/
def TryOk (W : Wd) (nm : Nms) (T : Tab) (X : Cx) (Wx : WX) : Prop := ∀ (eb : Env → Sto → SM) (c i f j : Nat) (body : List Stmt) (n z : Str) (px p1 p2 p3 p4 p5 p6 p7 : Pos),
  (∀ (Wx' : WX) (pn : List (Addr × Obj)) (xe : Value → Shared → Prop), Takes (X.tr pn xe) Wx' → PassesOwn (model X.prog X.w) X.A X.env xe → PSs (X.tr pn xe) body (tS W Wx' eb)) →
  nm.isx c f = true → nm.isr c = true → glB X.env.scope (W.sym c) = true → nb (W.sym c) = true → X.N[i]? = some n → nb n = true → X.env.scope.names.lookup n = some .local → X.N[j]? = some z → nb z = true → visB X.env.scope z = true → i ≠ j →
  PS X (.Try body [.ExceptHandler (some (.Name (W.sym c) px)) (some n) [.Return (some (.Compare (.Attribute (.Name n p1) (W.sym f) p2) [.Eq] [.Name z p3] p4)) p5] p6] [] [] p7) (tS W Wx fun env st => tryP T.xf c f j i (eb env st))
theorem unre_ok {X : Cx} {Wx : WX} {t : Stmt} : PS X t (tS W Wx fun _ _ => none) := PS.imp ps_never fun D σ H ⟨_, _, _, _, _, s⟩ => s.elim
theorem unres_ok {X : Cx} {Wx : WX} {t : List Stmt} : PSs X t (tS W Wx fun _ _ => none) := ⟨fun _ _ _ _ _ _ ⟨_, _, _, _, _, s⟩ => s.elim⟩
/-- a class of contexts that a body may run in -/
def Ctxs (W : Wd) (nm : Nms) (T : Tab) (Φ : Phi) (G : Cx → WX → Prop) : Prop := ∀ X Wx, G X Wx → SOk W nm T Φ X Wx ∧ TryOk W nm T X Wx ∧
  ∀ (Wx' : WX) (pn : List (Addr × Obj)) (xe : Value → Shared → Prop), Takes (X.tr pn xe) Wx' → PassesOwn (model X.prog X.w) X.A X.env xe → G (X.tr pn xe) Wx'
mutual
theorem S_ok {G : Cx → WX → Prop} (hG : Ctxs W nm T Φ G) : ∀ (s : S) (X : Cx) (Wx : WX), G X Wx → ∀ ps, chkS nm X.N X.env.scope s ps = true → PS X ps (tS W Wx (exec T Φ s))
  | .skip, X, Wx, g, ps, h => by
    unfold chkS at h; split at h <;> first | (cases h; done) | skip
    · exact s_skip ps_pass
    · exact s_skip ps_doc
  | .seq a b, X, Wx, g, ps, h => by unfold chkS at h; cases h
  | .wipe is, X, Wx, g, ps, h => by unfold chkS at h; cases h
  | .set (.nm i) e, X, Wx, g, ps, h => by
    have ok := (hG X Wx g).1
    unfold chkS at h; split at h <;> first | (cases h; done) | skip
    simp only [Bool.and_eq_true, Bool.not_eq_true', decide_eq_true_eq] at h
    obtain ⟨⟨⟨⟨h1, h2⟩, h3⟩, h4⟩, h5⟩ := h
    obtain ⟨l1, l2⟩ := loc_of (X := X) (fun x _ => ok.fn1 x) h3
    exact s_set ok.toXOk h1 h2 l1 l2 (E_ok e X Wx ok.toXOk _ h5)
  | .set (.tup ts) e, X, Wx, g, ps, h => by
    have ok := (hG X Wx g).1
    unfold chkS at h; split at h <;> first | (cases h; done) | skip
    rename_i es k p pe p2
    simp only [Bool.and_eq_true, Bool.not_eq_true'] at h
    obtain ⟨⟨⟨h1, h2⟩, h3⟩, h4⟩ := h
    exact s_setT ok.toXOk h1 h2 (pg_chk (fnb := fun _ => true) ok.calm ok.nd (fun x _ => ok.fn1 x) (.tup ts) (.Tuple es k p) (by unfold chkTg; exact h3)) (E_ok e X Wx ok.toXOk _ h4)
  | .ex e, X, Wx, g, ps, h => by
    have ok := (hG X Wx g).1
    unfold chkS at h; split at h <;> first | (cases h; done) | skip
    simp only [Bool.and_eq_true, Bool.not_eq_true'] at h
    exact s_ex h.1 (E_ok e X Wx ok.toXOk _ h.2)
  | .ret e, X, Wx, g, ps, h => by
    have ok := (hG X Wx g).1
    unfold chkS at h; split at h <;> first | (cases h; done) | skip
    exact s_ret (E_ok e X Wx ok.toXOk _ h)
  | .retn, X, Wx, g, ps, h => by
    unfold chkS at h; split at h <;> first | (cases h; done) | skip
    exact s_retn
  | .ifs c a b, X, Wx, g, ps, h => by
    have ok := (hG X Wx g).1
    unfold chkS at h; split at h <;> first | (cases h; done) | skip
    simp only [Bool.and_eq_true] at h
    obtain ⟨⟨⟨h1, h2⟩, h3⟩, h4⟩ := h
    exact s_if (ga := evt T Φ c) (T_ok c X Wx ok.toXOk _ h2 h1 (E_ok c X Wx ok.toXOk _ h2)).1 (Ss_ok hG a X Wx g _ h3) (Ss_ok hG b X Wx g _ h4)
  | .fors t it b, X, Wx, g, ps, h => by
    have ok := (hG X Wx g).1
    unfold chkS at h; split at h <;> first | (cases h; done) | skip
    simp only [Bool.and_eq_true, Bool.not_eq_true'] at h
    obtain ⟨⟨⟨h1, h2⟩, h3⟩, h4⟩ := h
    exact s_for ok.toXOk ok.pown h1 (It_ok it X Wx ok.toXOk _ _ h3) (pg_chk (fnb := fun _ => true) ok.calm ok.nd (fun x _ => ok.fn1 x) t _ h2) (Ss_ok hG b X Wx g _ h4)
  | .whil c b, X, Wx, g, ps, h => by
    have ok := (hG X Wx g).1
    unfold chkS at h; split at h <;> first | (cases h; done) | skip
    simp only [Bool.and_eq_true] at h
    obtain ⟨⟨h1, h2⟩, h3⟩ := h
    exact s_while (ga := evt T Φ c) ok.toXOk ok.pown (T_ok c X Wx ok.toXOk _ h2 h1 (E_ok c X Wx ok.toXOk _ h2)).1 (Ss_ok hG b X Wx g _ h3)
  | .brk, X, Wx, g, ps, h => by
    unfold chkS at h; split at h <;> first | (cases h; done) | skip
    exact s_brk
  | .cont, X, Wx, g, ps, h => by
    unfold chkS at h; split at h <;> first | (cases h; done) | skip
    exact s_cont
  | .app l e, X, Wx, g, ps, h => by
    have ok := (hG X Wx g).1
    unfold chkS at h; split at h <;> first | (cases h; done) | skip
    simp only [Bool.and_eq_true, Bool.not_eq_true', decide_eq_true_eq] at h
    obtain ⟨⟨⟨⟨⟨h1, h2⟩, h3⟩, h4⟩, h5⟩, h6⟩ := h
    subst h1
    exact s_app ok.toXOk h2 h3 h4 (E_ok l X Wx ok.toXOk _ h5) (E_ok e X Wx ok.toXOk _ h6)
  | .ext l e, X, Wx, g, ps, h => by
    have ok := (hG X Wx g).1
    unfold chkS at h; split at h <;> first | (cases h; done) | skip
    simp only [Bool.and_eq_true, Bool.not_eq_true', decide_eq_true_eq] at h
    obtain ⟨⟨⟨⟨⟨h1, h2⟩, h3⟩, h4⟩, h5⟩, h6⟩ := h
    subst h1
    exact s_ext ok.toXOk h2 h3 h4 (E_ok l X Wx ok.toXOk _ h5) (E_ok e X Wx ok.toXOk _ h6)
  | .setix o i e, X, Wx, g, ps, h => by
    have ok := (hG X Wx g).1
    unfold chkS at h; split at h <;> first | (cases h; done) | skip
    simp only [Bool.and_eq_true, Bool.not_eq_true'] at h
    obtain ⟨⟨⟨⟨h1, h2⟩, h3⟩, h4⟩, h5⟩ := h
    exact s_six ok.toXOk h1 (E_ok e X Wx ok.toXOk _ h3) (E_ok o X Wx ok.toXOk _ h4) (E_ok i X Wx ok.toXOk _ h5)
  | .setfl o f e, X, Wx, g, ps, h => by
    have ok := (hG X Wx g).1
    unfold chkS at h; split at h <;> first | (cases h; done) | skip
    simp only [Bool.and_eq_true, Bool.not_eq_true', decide_eq_true_eq] at h
    obtain ⟨⟨⟨h1, h2⟩, h3⟩, h4⟩ := h
    rw [← ok.sym] at h2
    subst h2
    exact s_sfl ok.toXOk h1 (E_ok e X Wx ok.toXOk _ h3) (E_ok o X Wx ok.toXOk _ h4)
  | .rai c es, X, Wx, g, ps, h => by
    have ok := (hG X Wx g).1
    unfold chkS at h; split at h <;> first | (cases h; done) | skip
    simp only [Bool.and_eq_true, Bool.not_eq_true', decide_eq_true_eq] at h
    obtain ⟨⟨⟨⟨⟨⟨h1, h2⟩, h3⟩, h4⟩, h5⟩, h6⟩, h7⟩ := h
    rw [← ok.sym] at h2
    subst h2
    exact ok.rai c es _ _ _ _ _ h1 h3 h4 h5 h6 (List.isEmpty_iff.mp h7)
  | .tryr b c i f j, X, Wx, g, ps, h => by
    have ok := (hG X Wx g).1
    unfold chkS at h; split at h <;> first | (cases h; done) | skip
    simp only [Bool.and_eq_true, Bool.not_eq_true', decide_eq_true_eq] at h
    obtain ⟨⟨⟨⟨⟨⟨⟨⟨⟨⟨⟨⟨⟨⟨h0, h1⟩, h2⟩, h3⟩, h4⟩, h5⟩, h6⟩, h7⟩, h8⟩, h9⟩, h10⟩, h11⟩, h12⟩, h13⟩, h14⟩ := h
    rw [← ok.sym] at h3 h10
    subst h3 h7 h10
    exact (hG X Wx g).2.1 _ c i f j _ _ _ _ _ _ _ _ _ _ _ (fun Wx' pn xe tk po => Ss_ok hG b _ Wx' ((hG X Wx g).2.2 Wx' pn xe tk po) _ h1) h0 h2 h4 h5 h6 h8 h9 h11 h12 h13 h14
  | .unre, X, Wx, g, ps, h => unre_ok
theorem Ss_ok {G : Cx → WX → Prop} (hG : Ctxs W nm T Φ G) : ∀ (s : S) (X : Cx) (Wx : WX), G X Wx → ∀ ps, chkSs nm X.N X.env.scope s ps = true → PSs X ps (tS W Wx (exec T Φ s))
  | .skip, X, Wx, g, ps, h => by
    unfold chkSs at h; split at h <;> first | (cases h; done) | skip
    exact PSs.imp pss_nil fun D σ H ⟨env, st, m, re, rs, s⟩ => s.nx rs re
  | .seq a b, X, Wx, g, ps, h => by
    unfold chkSs at h
    split at h
    · rename_i is
      exact PSs.imp (Ss_ok hG b X Wx g _ h) fun D σ H ⟨env, st, m, re, rs, s⟩ => ⟨_, st, m, re.wipe' is, rs, s⟩
    · rename_i hne
      split at h <;> first | (cases h; done) | skip
      simp only [Bool.and_eq_true] at h
      exact s_seq (S_ok hG a X Wx g _ h.1) (Ss_ok hG b X Wx g _ h.2)
  | .unre, X, Wx, g, ps, h => unres_ok
  | .wipe _, X, Wx, g, ps, h => by unfold chkSs at h; cases h
  | .set _ _, X, Wx, g, ps, h => by unfold chkSs at h; cases h
  | .ex _, X, Wx, g, ps, h => by unfold chkSs at h; cases h
  | .ret _, X, Wx, g, ps, h => by unfold chkSs at h; cases h
  | .retn, X, Wx, g, ps, h => by unfold chkSs at h; cases h
  | .ifs _ _ _, X, Wx, g, ps, h => by unfold chkSs at h; cases h
  | .fors _ _ _, X, Wx, g, ps, h => by unfold chkSs at h; cases h
  | .whil _ _, X, Wx, g, ps, h => by unfold chkSs at h; cases h
  | .brk, X, Wx, g, ps, h => by unfold chkSs at h; cases h
  | .cont, X, Wx, g, ps, h => by unfold chkSs at h; cases h
  | .app _ _, X, Wx, g, ps, h => by unfold chkSs at h; cases h
  | .ext _ _, X, Wx, g, ps, h => by unfold chkSs at h; cases h
  | .setix _ _ _, X, Wx, g, ps, h => by unfold chkSs at h; cases h
  | .setfl _ _ _, X, Wx, g, ps, h => by unfold chkSs at h; cases h
  | .rai _ _, X, Wx, g, ps, h => by unfold chkSs at h; cases h
  | .tryr _ _ _ _ _, X, Wx, g, ps, h => by unfold chkSs at h; cases h
end
end
end BR
end
section
set_option Elab.async false
set_option linter.all false
set_option maxRecDepth 100000
set_option maxHeartbeats 4000000
/-! BrSndH: defs. -/
namespace BR
open PySem PySem.Spec PyProof.Rows L2
theorem fin_ok {W : Wd} {E : XK} {st : Sto} {m : Mp} {H : Hp} {r : SM} {Q : VK} (rs : RSt W st m H) (h : Sem W E st m H (fin st r) (RpV W) Q) :
    SemS W (fun c d _ H => E c d H) st m H r { nx := fun _ H' => Q .non H', rt := Q } := by
  cases r with
  | none => exact h
  | some x =>
    cases x with
    | ex c vs env st' =>
      intro d σ' H' m' l rs' _ x
      simp only [fin] at h
      split at h
      · rename_i hc
        refine h d H' m' (l.tk hc.2) (rs.tk rs' hc.2) ?_
        obtain ⟨fv, e1, e2, q⟩ := x
        exact ⟨fv, e1, e2, q.tk hc.2.1 (PV.bes_pu _ _ hc.1)⟩
      · exact h d H' m' l rs' x
    | ok f env st' =>
      cases f with
      | bk => exact h.elim
      | ct => exact h.elim
      | nx =>
        intro σ' H' m' l rs' _
        simp only [fin] at h
        split at h
        · rename_i hc
          exact h _ H' m' (l.tk hc) (rs.tk rs' hc) .non
        · exact h _ H' m' l rs' .non
      | rt v =>
        intro σ' H' m' l rs' _ b rb
        simp only [fin] at h
        split at h
        · rename_i hc
          exact h _ H' m' (l.tk hc.2) (rs.tk rs' hc.2) (rb.tk hc.2.1 (PV.be_pu _ _ hc.1))
        · exact h _ H' m' l rs' rb
theorem env_start {W : Wd} {st : Sto} {m : Mp} {H : Hp} {N : List Str} {vs : List V} {xs : List PV} {n : Nat} (q : RepL W st m H vs xs) (hn : n = N.length - xs.length) : REnv W st m H (L2.start N vs) (xs.map some ++ List.replicate n none) := by
  subst hn
  refine ⟨by simp [L2.start, q.length], fun i x h => ?_⟩
  have lk : ∀ (l : List PV) (k i : Nat) (x : PV), look (l.map some ++ List.replicate k none) i = some x → l[i]? = some x := fun l => by
    induction l with
    | nil =>
      intro k i x h
      exfalso
      simp only [List.map_nil, List.nil_append] at h
      induction k generalizing i with
      | zero => simp [look] at h
      | succ k ih =>
        rw [List.replicate_succ] at h
        cases i with
        | zero => simp [look] at h
        | succ i => exact ih i (by simpa only [look] using h)
    | cons y l ih =>
      intro k i x h
      cases i with
      | zero => simpa [look] using h
      | succ i =>
        simp only [List.map_cons, List.cons_append, look] at h
        simpa using ih k i x h
  obtain ⟨v, hv, r⟩ := q.get (lk xs _ i x h)
  refine ⟨v, ?_, r⟩
  have hi := (List.getElem?_eq_some_iff.mp hv).1
  unfold L2.start
  rw [List.getElem?_append_left (by simpa using hi), List.getElem?_map, hv]
  rfl
/-- the written facts of the module -/
structure Grd (K : PySem.W.Frag) (mg : Str → Option Value) (W : Wd) (nm : Nms) (T : Tab) : Prop where
  hK : K = W.K
  sym : W.sym = nm.sym
  inj : ∀ i j, W.sym i = W.sym j → i = j
  blt : ∀ x, bltNames.contains x = true → mg x = none
  gcd : mg "gcd" = some (.builtin "math.gcd")
  fn : ∀ f, nm.isg f = true → mg (nm.fnm f) = some (.ref (W.fa f))
  kp : ∀ f, PySem.W.keepIn K (.ref (W.fa f)) = true
  glb : ∀ x v, T.glb x = some v → ∃ (u : Value) (w : V), mg (W.sym x) = some u ∧ RelV w u ∧ ∀ st m H, Rep W st m H w v
  cls : ∀ c f, T.ini c = some f → mg (W.sym c) = some (.ref (W.ca c)) ∧ Mk K (W.ca c) (W.fa f)
  isc : ∀ c, nm.isc c = true → ∃ f, T.ini c = some f
  mth : ∀ c m f, T.mth c m = some f → Cls K (W.ca c) ∧ Meth K (W.ca c) (W.sym m) (W.fa f)
  att : ∀ c f, T.att c f = true → Cls K (W.ca c) ∧ NoAttr K (W.ca c) (W.sym f)
  xf : W.xf = T.xf
  xc : ∀ c, nm.isr c = true → mg (W.sym c) = some (.ref (W.ca c)) ∧ XfC K (W.ca c) ∧ PySem.W.exmOne K (.ref (W.ca c)) (.ref (W.ca c)) = some true
  xn : ∀ c f, nm.isx c f = true → PySem.W.findIn K (.ref (W.ca c)) (W.sym f) = some none
/-- the contexts of bodies -/
structure Bod (P : Program) (w : World) (K : PySem.W.Frag) (mg : Str → Option Value) (base : Heap) (W : Wd) (Φ : Phi) (X : Cx) (Wx : WX) : Prop where
  hprog : X.prog = P
  hw : X.w = w
  hK : X.K = K
  hmg : X.mg = mg
  hbase : X.base = base
  calm : X.calm = true
  nd : X.N.Nodup
  tk : Takes X Wx
  room : ∃ k, Room (k + 1) X.A ∧ ∀ f, FnR P w K mg base (L2.CX P w) k (W.fa f) (spF W Φ f)
  pown : PassesOwn (model X.prog X.w) X.A X.env X.xe
  fn1 : ∀ x, X.fn x = true
  stk : X.stack = X.env :: X.outer
  frm : X.env.frame = some X.env.locals
  ex : X.ex = []
/-- what a raise of the module's own errors does -/
def RaiOk (P : Program) (w : World) (K : PySem.W.Frag) (mg : Str → Option Value) (base : Heap) (W : Wd) (nm : Nms) (T : Tab) (Φ : Phi) : Prop := ∀ X Wx, Bod P w K mg base W Φ X Wx → ∀ (c : Nat) (es : Es) (y : Expr) (ys : List Expr) (p1 p2 pos : Pos),
  nm.isr c = true → glB X.env.scope (W.sym c) = true → nb (W.sym c) = true → chkEs nm X.N es X.env.scope (y :: ys) = true → (y :: ys).any isStar = false → ys = [] →
    PS X (.Raise (some (.Call (.Name (W.sym c) p1) (y :: ys) [] p2)) none pos) (tS W Wx fun env st => stm env (evs T Φ es env st) fun vs st => some (.ex c vs env st))
section
variable {P : Program} {w : World} {K : PySem.W.Frag} {mg : Str → Option Value} {base : Heap} {W : Wd} {nm : Nms} {T : Tab} {Φ : Phi}
theorem bod_xok (g : Grd K mg W nm T) {X : Cx} {Wx : WX} (b : Bod P w K mg base W Φ X Wx) : XOk W nm T Φ X Wx := by
  obtain ⟨rfl, rfl, rfl, rfl, rfl, h6, h7, h8, h9, h10, h11, h12, h13, h14⟩ := b
  exact ⟨g.hK, h6, h7, h8, g.sym, g.inj, g.blt, g.gcd, h9, g.fn, g.kp, g.glb, g.cls, g.isc, g.mth, g.att⟩
theorem try_ok (g : Grd K mg W nm T) {X : Cx} {Wx : WX} (b : Bod P w K mg base W Φ X Wx) : TryOk W nm T X Wx := by
  intro eb c i f j body n z px p1 p2 p3 p4 p5 p6 p7 hb hx hr hgl hn hi hnn hln hj hz hvz hij
  have ok := bod_xok g b
  obtain ⟨hm, T1, hex⟩ := g.xc c hr
  have hkK : X.K = K := b.hK
  have hret : ∀ (a : Addr) (oe : Obj) (cls : Value) (d : Option Addr) (pn : List (Addr × Obj)), Zc cls d oe → (∃ vs, oe.data = .fields vs) →
      PSs (X.suite a ((a, oe) :: pn)) [.Return (some (.Compare (.Attribute (.Name n p1) (W.sym f) p2) [.Eq] [.Name z p3] p4)) p5] (tRet (tOp (rCmp W .eq) (tXf a cls d (W.ca c) (W.sym f) (tVar i)) (tVar j))) := fun a oe cls d pn hzc hfd => by
    refine pss_one (ps_ret (pe_cmpR (op_cmp (X := X.suite a ((a, oe) :: pn)) ok.K (by exact ok.units) .eq .Eq rfl) (pe_xf (by rw [hkK]; exact T1) (by rw [hkK]; exact g.xn c f hx) hzc hfd (pe_var hi (.inl hln) (nb_of hnn).1 (nb_of hnn).2.1) rfl) (pe_var hj (vis_of hvz) (nb_of hz).1 (nb_of hz).2.1) rfl))
  refine PS.imp (ps_try_as (tb := fun W' => tS W W' eb) b.stk b.frm b.nd hi hln ⟨gl_of hgl, (nb_of hn).1, .inl (by rw [b.hmg]; exact hm)⟩ b.tk hb hret) fun D σ H ⟨env, st, m, re, rs, s⟩ => ?_
  refine ⟨env, st, m, re, rs, ?_⟩
  simp only at s
  cases e : eb env st with
  | none => rw [e] at s; exact s
  | some x =>
    rw [e] at s
    cases x with
    | ok fl env2 st2 => exact s
    | ex c' vs env2 st2 =>
      simp only [tryP] at s
      split at s
      · rename_i hc
        obtain ⟨hc, hil⟩ := hc
        subst hc
        split at s
        · rename_i v u hv hu
          split at s
          · rename_i bb hbb
            intro d σ' H' m' l rs' re' ⟨fv, e1, e2, q⟩
            refine ⟨true, by rw [hkK]; exact hex, fun _ a ha => ?_, fun z => by cases z⟩
            have hσ : i < σ'.length := by rw [re'.1]; exact hil
            obtain ⟨wv, h1, h2⟩ := fld_look g.inj (by rw [g.xf] at e2; exact e2) q hv
            obtain ⟨wu, h3, h4⟩ := re'.2 j u hu
            refine ⟨.ref a, by rw [List.getElem?_set_self hσ], rfl, rfl, d, fv, wv, rfl, e1, h1, wu, by rw [List.getElem?_set_ne hij]; exact h3, v, u, bb, st2, m', rs', h2, h4, (fun z => nomatch z), ?_, ?_⟩
            · cases v <;> cases u <;> exact hbb
            · have z : REnv W st2 m' H' σ' (wipeE env2 [i]) := re'.wipe' [i]
              exact s σ' H' m' l rs' z _ (.bl bb)
          · exact s.elim
        · exact s.elim
      · exact s.elim
theorem bod_ctxs (g : Grd K mg W nm T) (hr : RaiOk P w K mg base W nm T Φ) : Ctxs W nm T Φ (Bod P w K mg base W Φ) := fun X Wx b =>
  ⟨⟨bod_xok g b, b.pown, b.fn1, hr X Wx b⟩, try_ok g b, fun Wx' pn xe tk po => ⟨b.hprog, b.hw, b.hK, b.hmg, b.hbase, b.calm, b.nd, tk, b.room, po, b.fn1, b.stk, b.frm, b.ex⟩⟩
/-! ### a def -/
/-- how a def stands, and that its body says what the small text says -/
inductive FunIs (K : PySem.W.Frag) (W : Wd) (nm : Nms) (f : Nat) (d : Fd) : Prop where
  | plain {x qual : Str} {params : Arguments} {body : List Stmt} {scope : Scope} {dvs0 dvs : List V} {ds : List Value} {fd : FuncData} {N ps : List Str} (hs : d.star = false) (fun_ : FunD K x qual params body scope dvs0 [] (W.fa f) fd) (sc : FnScope N ps scope)
      (np : ps.length = d.np + d.dfl.length) (dv : ∀ st m H, RepL W st m H dvs d.dfl) (vds : Vals dvs ds) (bd : Binds K fd ps ds) (ns : N.length = d.ns) (chk : chkSs nm N scope d.body body = true)
  | star {x qual : Str} {params : Arguments} {body : List Stmt} {scope : Scope} {fd : FuncData} {N ps : List Str} {pv : Str} (hs : d.star = true) (fun_ : FunD K x qual params body scope [] [] (W.fa f) fd) (sc : FnScope N (ps ++ [pv]) scope)
      (np : ps.length = d.np) (bd : ∀ (kV doc pm : Value) (an : Option Addr) (cdv ct : Value) (us rest : List Value), us.length = ps.length → bindArgs (PySem.W.fnOf x qual params body scope .none kV doc pm an cdv ct) ⟨us ++ rest, []⟩ = (newTuple rest >>= fun t => pure (ps.zip us ++ [(pv, t)])))
      (ns : N.length = d.ns) (chk : chkSs nm N scope d.body body = true)
theorem cx_bod (g : Grd K mg W nm T) {k : Nat} {N ps : List Str} {qual : Str} {scope : Scope} {f : Addr} {cdv : Value} {A : Around} {outer : List PySem.Env} {s : Shared} {H : Hp} {E : XK} (S : FnScope N ps scope)
    (hr : Room (k + 1) (A.deeper (envOfC qual scope s.heap.objs.size f cdv))) (F : ∀ f, FnR P w K mg base (L2.CX P w) k (W.fa f) (spF W Φ f)) :
    Bod P w K mg base W Φ (cxOf (L2.CX P w) P w K mg base N qual scope f cdv A outer s H E) (fun c d _ H => E c d H) :=
  ⟨rfl, rfl, rfl, rfl, rfl, rfl, S.nd, takes_of rfl rfl rfl rfl, ⟨k, hr, F⟩, passes_of (E₁ := fun e' s'' => L2.CX P w outer H s E e' s'') rfl, fun _ => rfl, rfl, rfl, rfl⟩
theorem body_ok (g : Grd K mg W nm T) (hr : RaiOk P w K mg base W nm T Φ) {k : Nat} {N ps : List Str} {qual : Str} {scope : Scope} {f : Addr} {cdv : Value} {A : Around} {outer : List PySem.Env} {s : Shared} {H : Hp} {E : XK} {Q : VK} (S : FnScope N ps scope)
    (room : Room (k + 1) (A.deeper (envOfC qual scope s.heap.objs.size f cdv))) (F : ∀ f, FnR P w K mg base (L2.CX P w) k (W.fa f) (spF W Φ f)) {d : Fd} {body : List Stmt} (chk : chkSs nm N scope d.body body = true)
    {st : Sto} {m : Mp} {ws : List V} {ys : List PV} {n : Nat} (rs : RSt W st m H) (q : RepL W st m H ws ys) (hn : n = N.length - ys.length) (h : Sem W E st m H (fin st (exec T Φ d.body (ys.map some ++ List.replicate n none) st)) (RpV W) Q) :
    ∃ t, PSs (cxOf (L2.CX P w) P w K mg base N qual scope f cdv A outer s H E) body t ∧ t { nx := fun _ H' => Q .non H', rt := Q } (L2.start N ws) H :=
  ⟨_, Ss_ok (bod_ctxs g hr) d.body _ _ (cx_bod g S room F) body chk, _, st, m, env_start q hn, rs, fin_ok rs h⟩
/-- the next level -/
theorem fn_step (g : Grd K mg W nm T) {k n : Nat} (hr : RaiOk P w K mg base W nm T (runF T n)) (F : ∀ f, FnR P w K mg base (L2.CX P w) k (W.fa f) (spF W (runF T n) f)) (hf : ∀ f d, T.fns f = some d → FunIs K W nm f d) (f : Nat) :
    FnR P w K mg base (L2.CX P w) (k + 2) (W.fa f) (spF W (runF T (n + 1)) f) := by
  cases ef : T.fns f with
  | none =>
    intro A outer s H us vs Q E _ _ _ ⟨st, m, xs, _, _, h⟩
    simp only [runF, ef] at h
    exact h.elim
  | some d =>
    rcases hf f d ef with ⟨hs, fun_, sc, np, dv, vds, bd, ns, chk⟩ | ⟨hs, fun_, sc, np, bd, ns, chk⟩
    · rename_i x qual params body scope dvs0 dvs ds fd N ps
      have F1 : FnOk P w K mg base (L2.CX P w) (k + 2) (W.fa f) fd ps (fun ws H Q E => ∃ st m ys, ys.length = ps.length ∧ RSt W st m H ∧ RepL W st m H ws ys ∧ Sem W E st m H (fin st (exec T (runF T n) d.body (ys.map some ++ List.replicate (N.length - ys.length) none) st)) (RpV W) Q) :=
        fun_.ok sc (fun vs H Q E ⟨st, m, ys, hl, _, q, _⟩ => by rw [q.length]; exact hl) fun cdv A outer s H vs Q E room ⟨st, m, ys, hl, rs, q, h⟩ => body_ok g hr sc room F chk rs q rfl h
      refine (F1.raw bd vds).imp fun vs H Q E ⟨st, m, xs, rs, q, h⟩ => ?_
      simp only [runF, ef] at h
      unfold pars at h
      rw [hs] at h
      simp only [Bool.false_eq_true, if_false] at h
      split at h
      · exact h.elim
      · rename_i env he
        split at he
        · rename_i hl
          cases he
          refine ⟨st, m, xs ++ d.dfl, by rw [List.length_append, hl, np], rs, q.append (dv st m H), ?_⟩
          rw [List.map_append, List.length_append, ns, hl]
          exact h
        · cases he
    · rename_i x qual params body scope fd N ps pv
      obtain ⟨oc, od, dV, kV, doc, pm, an, cdv, ct, osl, rfl, lk, hcd, ⟨_, rfl⟩ | ⟨z, _⟩, _⟩ := fun_.ex
      rotate_left
      · exact absurd rfl z
      have F1 := StX.fn_star (CX := L2.CX P w) (P := P) (w := w) (mg := mg) (base := base) (k := k + 1) (N := N) (ps := ps) (pv := pv) (sp := fun ws H Q E => ∃ st m ys, ys.length = (ps ++ [pv]).length ∧ RSt W st m H ∧ RepL W st m H ws ys ∧ Sem W E st m H (fin st (exec T (runF T n) d.body (ys.map some ++ List.replicate (N.length - ys.length) none) st)) (RpV W) Q)
        lk hcd sc StX.cxUp (fun us rest hl => bd kV doc pm an cdv ct us rest hl) fun A outer s H vs Q E room ⟨st, m, ys, hl, rs, q, h⟩ => body_ok g hr sc room F chk rs q rfl h
      refine F1.imp fun vs H Q E ⟨st, m, xs, rs, q, h⟩ => ?_
      simp only [runF, ef] at h
      unfold pars at h
      rw [hs] at h
      simp only [if_true] at h
      split at h
      · exact h.elim
      · rename_i env he
        split at he
        · rename_i hl
          cases he
          have hlv : vs.length = xs.length := q.length
          refine ⟨vs.take d.np, vs.drop d.np, (List.take_append_drop ..).symm, by rw [List.length_take, np]; omega, by rw [List.length_drop]; omega, fun p hp => ?_⟩
          have q2 : RepL W st m (upd H p (.tup (vs.drop d.np))) (vs.take d.np) (xs.take d.np) := (q.take _).le (Le.new rs hp)
          have q3 : Rep W st m (upd H p (.tup (vs.drop d.np))) (.ref p) (.tup (xs.drop d.np)) := .tup upd_same (rs.nown hp) (by rw [List.length_drop]; omega) ((q.drop _).le (Le.new rs hp))
          refine ⟨st, m, xs.take d.np ++ [.tup (xs.drop d.np)], by rw [List.length_append, List.length_append, List.length_take, np]; simp; omega, rs.new hp, q2.append (.cons q3 .nil), ?_⟩
          have e1 : (xs.take d.np ++ [PV.tup (xs.drop d.np)]).map some = (xs.take d.np).map some ++ [some (.tup (xs.drop d.np))] := by simp
          have e2 : N.length - (xs.take d.np ++ [PV.tup (xs.drop d.np)]).length = d.ns - (d.np + 1) := by
            rw [List.length_append, List.length_take, ns]
            simp
            omega
          rw [e1, e2]
          exact Sem.le h (Le.new rs hp)
        · cases he
theorem fn_all (g : Grd K mg W nm T) (hr : ∀ n, RaiOk P w K mg base W nm T (runF T n)) (hf : ∀ f d, T.fns f = some d → FunIs K W nm f d) : ∀ (n f : Nat), FnR P w K mg base (L2.CX P w) (2 * n) (W.fa f) (spF W (runF T n) f)
  | 0, f => fun A outer s H us vs Q E _ _ _ ⟨st, m, xs, _, _, h⟩ => h.elim
  | n + 1, f => fn_step g (hr n) (fn_all g hr hf n) hf f
end
end BR
end
section
set_option Elab.async false
set_option linter.all false
set_option maxRecDepth 100000
set_option maxHeartbeats 4000000
/-! BrXin: an own error's __init__: super().__init__(text), then self.f = v. -/
namespace BR
open PySem PySem.Calls PySem.Spec PyProof.Rows L2
section
variable {P : Program} {w : World} {K : PySem.W.Frag} {mg : Str → Option Value} {base : Heap} {CX : CXT} {k : Nat}
/-- the context of such a body -/
def cxX (CX : CXT) (P : Program) (w : World) (K : PySem.W.Frag) (mg : Str → Option Value) (base : Heap) (N : List Str) (env : PySem.Env) (A : Around) (outer : List PySem.Env) (s : Shared) (H : Hp) (E : XK) : Cx where
  prog := P
  w := w
  K := K
  mg := mg
  base := base
  A := A.deeper env
  N := N
  s_0 := s
  H_0 := H
  env := env
  outer := outer
  stack := env :: outer
  ex := []
  calm := true
  fn := fun _ => false
  pn := []
  xe := fun e s' => wpAny (model P w) (A.deeper env) (leaving env e) (fun _ s'' => CX outer H s E e s'') (fun e' s'' => CX outer H s E e' s'') s'
/-- the text of such a body -/
def xinB (sel fld val : Str) (txt : Str) (j : Nat) (p0 p1 p2 p3 p4 p5 p6 p7 p8 p9 : Pos) : List Stmt :=
  [.Expr (.Call (.Attribute (.Call (.Name "super" p0) [] [] p1) "__init__" p2) [.Constant (.str txt) j p3] [] p4) p5, .Assign [.Attribute (.Name sel p6) fld p7] (.Name val p8) p9]
theorem xin_start {qual : Str} {scope : Scope} {f cda cc C : Addr} {A : Around} {outer : List PySem.Env} {s : Shared} {H : Hp} {E : XK} {h1 : Heap} {sel val : Str} {x : Addr} {v : V} {u : Value} {t : Nat} {cl : Value} {cld : Option Addr} {csl : Array (Option Value)}
    (hkind : scope.kind = .function) (hsel : scope.names.lookup sel = some .local) (hval : scope.names.lookup val = some .local) (ne : sel ≠ val) (onl : ∀ y, scope.names.lookup y = some .cell ∨ scope.names.lookup y = some .free → y = "__class__")
    (hd : A.handled = none) (e0 : Env0 P w K mg base A outer s H) (rv : RelV v u) (hcell : K.lookup cc = some ⟨cl, cld, .cell (some (.ref C)), csl⟩)
    (hns : h1.Ns s.heap.objs.size (fun y => ([sel, val].zip [Value.ref x, u]).reverse.lookup y)) (hk : ∀ b o, s.heap.get? b = some o → h1.get? b = some o) :
    Inv (cxX CX P w K mg base [sel, val] (PySem.W.ksEnv qual scope s.heap.objs.size f (.ref cda) cc) A outer s H E) [] [some (.ref x), some v] H { s with heap := h1, toks := t } := by
  have KX : K.In s.heap := e0.mod.kin.keeps fun b o e => (e0.bs b o e).1
  have cl1 : ∀ y c, (PySem.W.ksEnv qual scope s.heap.objs.size f (.ref cda) cc).cells.lookup y = some c → y = "__class__" ∧ c = cc := fun y c h => by
    have h : ([("__class__", cc)] : List (Str × Addr)).lookup y = some c := h
    by_cases e : y = "__class__"
    · subst e
      simp [List.lookup] at h
      exact ⟨rfl, h.symm⟩
    · have z : (y == ("__class__" : Str)) = false := by simpa using e
      simp [List.lookup, z] at h
  have noA : ∀ b : Addr, b ∉ (cxX CX P w K mg base [sel, val] (PySem.W.ksEnv qual scope s.heap.objs.size f (.ref cda) cc) A outer s H E).ex := fun b z => absurd (show b ∈ ([] : List Addr) from z) (by simp)
  have hcb : base.get? cc = some ⟨cl, cld, .cell (some (.ref C)), csl⟩ := e0.mod.kin _ _ hcell
  refine ⟨⟨e0.mod, hkind, rfl, rfl, Nat.le_refl _, fun y z c h1 h2 => ?_, fun y hy => ?_, fun y c z _ => absurd z (by simp [cxX]), fun _ => hd, Around.frames_deeper e0.frames, .inr ⟨rfl, rfl⟩, fun b z => absurd z (noA b), e0.bs, e0.bsz, fun b _ _ => noA b, fun b z => absurd z (noA b), e0.funs, e0.frf⟩,
    rfl, e0.bare, Un.kept hk, ⟨_, hns, fun i y v' h1 h2 h3 => ?_⟩, fun y c h => ?_, e0.hok.fresh (Nat.le_refl _), fun y c h => ?_, fun p hp => absurd (show p ∈ ([] : List (Addr × Obj)) from hp) (by simp), e0.hok.kept hk, rfl⟩
  · rw [(cl1 y c h1).1, (cl1 z c h2).1]
  · have e := onl y hy
    subst e
    exact ⟨cc, rfl⟩
  · match i, h1, h2 with
    | 0, h1, h2 =>
      cases h1
      cases h2
      refine ⟨.ref x, rfl, .inl ⟨hsel, ?_⟩⟩
      have z : (sel == val) = false := by simpa using ne
      simp [List.lookup, z]
    | 1, h1, h2 =>
      cases h1
      cases h2
      refine ⟨u, rv, .inl ⟨hval, ?_⟩⟩
      simp [List.lookup]
    | i + 2, h1, h2 => cases h1
  · obtain ⟨rfl, rfl⟩ := cl1 y c h
    exact ⟨_, _, hk _ _ (KX _ _ hcell), rfl⟩
  · obtain ⟨rfl, rfl⟩ := cl1 y c h
    exact (e0.bs _ _ hcb).2
/-- what it keeps -/
def spX (C : Addr) (fld : Str) : Sp := fun ws H Q _ => ∃ (x : Addr) (v : V), ws = [.ref x, v] ∧ H x = some (exo x C none) ∧ ∀ dx, H dx = none → dx ≠ x → Q .non (upd (upd H dx (exd dx [(fld, v)])) x (exo x C (some dx)))
theorem xin_ok {nmI qual : Str} {params : Arguments} {scope : Scope} {dV kV doc pm ct oc : Value} {an od : Option Addr} {osl : Array (Option Value)} {f cda cc C : Addr} {sel fld val txt : Str} {j : Nat} {p0 p1 p2 p3 p4 p5 p6 p7 p8 p9 : Pos} {ar : Arg}
    {vs : Array Value} {file : Str} {tf : Tok} {ccl cl : Value} {cdd cld : Option Addr} {ccs csl : Array (Option Value)} {cdC : ClassData}
    (lk : K.lookup f = some ⟨oc, od, .func (PySem.W.ksFn nmI qual params (xinB sel fld val txt j p0 p1 p2 p3 p4 p5 p6 p7 p8 p9) scope dV kV doc pm an (.ref cda) ct cc), osl⟩) (hcd : PySem.W.codeIn K (.ref cda) qual = true)
    (hp : (params.posonlyargs ++ params.args).head? = some ar) (har : ar.arg = sel)
    (hkind : scope.kind = .function) (hco : scope.isCoroutine = false) (hgen : scope.isGenerator = false) (hnc : ∀ y ∈ scope.names, y.2 ≠ .cell) (hsel : scope.names.lookup sel = some .local) (hval : scope.names.lookup val = some .local) (ne : sel ≠ val)
    (onl : ∀ y, scope.names.lookup y = some .cell ∨ scope.names.lookup y = some .free → y = "__class__") (hks : scope.names.lookup ("super" : Str) = some .globalImplicit) (hkc : scope.names.lookup ("__class__" : Str) = some .free)
    (d1 : (sel == ("__debug__" : Str)) = false) (d2 : (sel == ("__classdict__" : Str)) = false) (d3 : (val == ("__debug__" : Str)) = false) (d4 : (val == ("__classdict__" : Str)) = false)
    (hcode : K.lookup cda = some ⟨ccl, cdd, .fields vs, ccs⟩) (hvs : vs[2]? = some (.str file tf)) (hfile : ((P.main.file : Str) == file) = true) (htop : (P.main.scope.names.lookup ("super" : Str)).isSome = false)
    (hcell : K.lookup cc = some ⟨cl, cld, .cell (some (.ref C)), csl⟩) (hC : PySem.W.clsIn K C = some cdC) (hsub : PySem.W.mroIn K C (.ref C) = some true) (hsuper : mg "super" = none) (T : OexC K C)
    (ho : PySem.W.nsIn K cStatics "thirdparty.any" = some none) (hm : PySem.W.ks_superIn K C C "__init__" = some (some (.builtin "ValueError.__init__"))) (hB : PySem.W.subIn K (.ref C) (.type "ValueError") = some true)
    (hno : PySem.W.findIn K (.ref C) fld = some none)
    {pl : PySem.Env → _root_.PySem.Sem Bool} (hcall : ∀ env : PySem.Env, eval (.Call (.Attribute (.Call (.Name "super" p0) [] [] p1) "__init__" p2) [.Constant (.str txt) j p3] [] p4) env = (do
      let ov ← attributeBase (.Call (.Name "super" p0) [] [] p1) "__init__" env (eval (.Call (.Name "super" p0) [] [] p1) env)
      standAt p2.atName
      let (f, first) ← holding [ov] (getMethod ov "__init__" (pl env))
      callWith p4 f first (backTo p4 (starEach [.Constant (.str txt) j p3] env)) [])) :
    FnOk P w K mg base CX k f (PySem.W.ksFn nmI qual params (xinB sel fld val txt j p0 p1 p2 p3 p4 p5 p6 p7 p8 p9) scope dV kV doc pm an (.ref cda) ct cc) [sel, val] (spX C fld) := by
  refine ⟨fun ws H Q E ⟨x, v, e, _⟩ => by subst e; rfl, fun A outer s H args us ws Q E hr e0 hb r ⟨x, v, ew, hx, hq⟩ => ?_⟩
  subst ew
  obtain ⟨u, rfl, rv⟩ : ∃ u, us = [.ref x, u] ∧ RelV v u := by
    cases r with
    | cons a r =>
      cases r with
      | cons b r =>
        cases r
        cases a
        exact ⟨_, rfl, b⟩
  have KX : K.In s.heap := e0.mod.kin.keeps fun b o e => (e0.bs b o e).1
  have lim : s.heap.NoLimit := e0.mod.nolimit.keeps fun b o e => (e0.bs b o e).1
  have hloc : ∀ y ∈ [sel, val].zip [Value.ref x, u], scope.names.lookup y.1 = some .local := fun y hy => by
    simp only [List.zip_cons_cons, List.zip_nil_right, List.mem_cons, List.not_mem_nil, or_false] at hy
    rcases hy with rfl | rfl
    · exact hsel
    · exact hval
  refine PySem.ks_codeAny_call_defAt hr.depth (KX _ _ lk) rfl lim (PySem.W.codeRec_of KX hcd) rfl hb hnc hloc (fun h₁ hns hk₁ => ?_) hco hgen hkind
  show PySem.wpAt (model P w) (A.deeper (PySem.W.ksEnv qual scope s.heap.objs.size f (.ref cda) cc)) (.func (xinB sel fld val txt j p0 p1 p2 p3 p4 p5 p6 p7 p8 p9) (PySem.W.ksEnv qual scope s.heap.objs.size f (.ref cda) cc)) (execs (xinB sel fld val txt j p0 p1 p2 p3 p4 p5 p6 p7 p8 p9) (PySem.W.ksEnv qual scope s.heap.objs.size f (.ref cda) cc)) _ _ _
  have I0 := xin_start (CX := CX) (mg := mg) (E := E) (qual := qual) (f := f) (cda := cda) (t := s.toks + 2) hkind hsel hval ne onl hr.hd e0 rv hcell hns hk₁
  refine PySem.ks_wpAt_execs_cons ?_
  refine PySem.ks_wpAt_Expr_any ?_ (hi := I0.quiet)
  refine PySem.ks_wpAt_MethodCall (he := hcall _) ?_
  have kin0 : K.In h₁ := I0.kIn
  have fr0 := I0.fr
  obtain ⟨oD, hD1, hD2⟩ : ∃ oD, h₁.get? C = some oD ∧ oD.data = .cls cdC := by
    unfold PySem.W.clsIn at hC
    split at hC
    · rename_i c d cd' sl ho
      cases hC
      exact ⟨_, kin0 _ _ ho, rfl⟩
    · cases hC
  have keep0 : ∀ b o, base.get? b = some o → h₁.get? b = some o := I0.bk
  obtain ⟨mb, hmb, hbt⟩ := e0.mod.blt
  have vsup : mb "super" = some (.type "super") := (hbt "super" (by decide)).trans (by kernel_rfl)
  obtain ⟨t1, hxo⟩ := exo_at I0.hok hx
  refine PySem.ks_wpAt_super_base (env := PySem.W.ksEnv qual scope s.heap.objs.size f (.ref cda) cc) hks hkc rfl rfl (kin0 _ _ lk) rfl hp rfl (kin0 _ _ hcode) rfl hvs hfile htop ?_
  refine PySem.W.ks_loadName_global hkind hks (loadGlobal_builtin (env := PySem.W.ksEnv qual scope s.heap.objs.size f (.ref cda) cc) (e0.mod.glob.keeps keep0) hsuper (hmb.keeps keep0) vsup ⟨rfl, ?_⟩)
  refine wpAny_loadName_free hkind hkc rfl ⟨_, kin0 _ _ hcell, rfl⟩ ?_
  rw [har]
  refine wpAny_loadName_local hkind hsel hns (v := .ref x) (by simp [List.lookup, show (sel == val) = false by simpa using ne]) ?_
  refine PySem.ks_wpAny_isType_cls hD1 hD2 ⟨rfl, ?_⟩
  refine PySem.ks_wpAny_call_super hD1 hD2 hxo rfl (fun c e => by cases e) (PySem.W.looks_mroIn kin0 hsub) (fun h2 hso k2 => ?_)
  have I1 := I0.kept (t' := s.toks + 2) k2
  have kin1 : K.In h2 := I1.kIn
  have J1 : PySem.W.InstAt h2 x ({ cls := .ref C, dict := none, data := .fields #[.ref t1, .none, .none, .none, .bool false, .none] } : Obj) C none := ⟨k2 _ _ hxo, rfl, rfl, trivial⟩
  have hsm := hm
  unfold PySem.W.ks_superIn at hsm
  rw [hC] at hsm
  refine PySem.W.kxs_getMethod PySem.W.kxs_ValueError hso (PySem.W.looks_opaque kin1 ho) (l₀ := cdC.mro) (fun A Q E s k q => wpAny_bind ((PySem.W.looks_clsIn kin1 hC) A _ E s k (wpAny_pure q))) rfl kin1 hsm (J1.type.andThen (PySem.W.looks_subIn kin1 hB)) (PySem.W.ks_ne kin1 J1 hC) rfl ?_
  show wpAny (model P w) _ (callWith p4 (.ref h2.objs.size) [] (backTo p4 (starEach [.Constant (.str txt) j p3] (PySem.W.ksEnv qual scope s.heap.objs.size f (.ref cda) cc))) []) _ _ _
  have I2 := I1.kept (t' := s.toks + 2 + 1) (h' := h2.push (PySem.W.kxs_mw "ValueError.__init__" x)) (fun b o e => Heap.get?_push_of_some _ e)
  have hn2 : H h2.objs.size = none := I1.hok.fresh (Nat.le_refl _)
  have I3 := I2.pins_of (pins' := [(h2.objs.size, PySem.W.kxs_mw "ValueError.__init__" x)]) fun p hp => by
    have e : p = (h2.objs.size, PySem.W.kxs_mw "ValueError.__init__" x) := by simpa using hp
    subst e
    exact ⟨Heap.get?_push_at rfl rfl, hn2, Nat.ne_of_gt I1.lt, I1.nofs (Nat.le_refl _), fun v e => by cases e⟩
  have hrest := (pa_cons (X := cxX CX P w K mg base [sel, val] (PySem.W.ksEnv qual scope s.heap.objs.size f (.ref cda) cc) A outer s H E) (pe_str (x := txt) (j := j) (pos := p3)) pa_nil rfl).run p4 _ _ _ H (fun ws H' => ws = [.str txt] ∧ H' = H) I3 ⟨rfl, rfl⟩
  refine PySem.W.kxs_callWith (i := "ValueError.__init__") (x := x) rfl (evalArgs_plain (wpAny_mono hrest (fun vs1 s1 h1 => ?_) fun _ _ z => z))
  obtain ⟨ws1, H1, I4, r4, rfl, rfl⟩ := h1
  have pin := I4.pin (h2.objs.size, PySem.W.kxs_mw "ValueError.__init__" x) (by simp [cxX])
  refine ⟨pin.1, ?_⟩
  have hl4 : vs1.length = 1 := r4.length.symm
  obtain ⟨nm, qC, NC, bs, bm, sn, sub, ab, col, dd, k0, k1, k2', k3, k5, hCl, hbm⟩ := T.cls
  have hC1 := I4.kIn _ _ hCl
  obtain ⟨t4, he⟩ := exo_at I4.hok hx
  obtain ⟨g1, gg1, dr1, tk1, os1⟩ := s1
  refine wpAny_call (codeAny_of_tree ?_)
  show wpAny _ _ (callAny (.ref h2.objs.size) ⟨vs1, []⟩) _ _ _
  simp only [callAny]
  refine wpAny_bind (wpAny_load pin.1 ?_)
  simp only [PySem.W.kxs_mw, show (Value.type "method-wrapper" == Value.type "method" || Value.type "method-wrapper" == Value.type "builtin_function_or_method" || Value.type "method-wrapper" == Value.type "method-wrapper") = true by decide, if_true]
  refine PySem.W.KFB.if_so (by decide) ?_
  refine wpAny_bind (PySem.W.check_bound_init F.excBase_ValueError.toExcCallFacts hC1 he rfl ?_)
  refine wpAny_bind (wpAny_pure (wpAny_pure ?_))
  refine ⟨plainId_quiet F.excBase_ValueError.init.plain _, codeAny_builtin F.excBase_ValueError.initEntry ?_⟩
  refine PySem.W.exc_init_tree (cls := .ref C) (t0 := t4) (dv := none) (c2 := .none) (c3 := .none) (b4 := .bool false) he (by rw [hl4, sizeLine_eq]; decide) (fun h5 k5' e5 _ => ?_)
  have J := I4.write (t' := tk1) (x := x) (e := x) (o := exo x C none) (by rw [hx]; exact True.intro) (.inl rfl) k5' ⟨_, e5⟩ (exo_ok e5)
  have eu : upd H1 x (exo x C none) = H1 := by
    funext b
    by_cases hb : b = x
    · rw [hb, upd_same, hx]
    · rw [upd_ne hb]
  rw [eu] at J
  have J2 := J.unpinned (pins := [])
  have rest := (pss_cons (ps_ost (X := cxX CX P w K mg base [sel, val] (PySem.W.ksEnv qual scope s.heap.objs.size f (.ref cda) cc) A outer s H1 E) (f := fld) (p' := p7) (pos := p9) (pe_var (i := 0) (x := sel) (pos := p6) rfl (.inl hsel) d1 d2) (pe_var (i := 1) (x := val) (pos := p8) rfl (.inl hval) d3 d4)) pss_nil).run [] _ _ H1 { nx := fun _ H' => Q .non H', rt := Q } J2
    ⟨v, rfl, .ref x, rfl, x, C, rfl, T, hno, .inl ⟨hx, fun dx hd hne => hq dx hd hne⟩⟩
  show PySem.wpAt (model P w) (A.deeper (PySem.W.ksEnv qual scope s.heap.objs.size f (.ref cda) cc)) (.func (xinB sel fld val txt j p0 p1 p2 p3 p4 p5 p6 p7 p8 p9) (PySem.W.ksEnv qual scope s.heap.objs.size f (.ref cda) cc)) (execs [.Assign [.Attribute (.Name sel p6) fld p7] (.Name val p8) p9] (PySem.W.ksEnv qual scope s.heap.objs.size f (.ref cda) cc)) _ _ _
  refine wpAt_of_wpAny (wpAny_mono rest (fun fl s' hs => ?_) fun _ _ z => z)
  have fin : ∀ {σ' : L2.St} {H' : Hp} {v' : V} {u' : Value}, L2.Inv (cxX CX P w K mg base [sel, val] (PySem.W.ksEnv qual scope s.heap.objs.size f (.ref cda) cc) A outer s H1 E) [] σ' H' s' → L2.RelV v' u' → Q v' H' → CE outer P w H1 s Q u' s' :=
    fun {σ' H' v' u'} J rv q => ⟨v', H', J.os, J.bare, J.base, J.hok, rv, q⟩
  cases fl with
  | ret u' =>
    obtain ⟨v', σ', H', J, rv, q⟩ := hs
    exact fin J rv q
  | next =>
    obtain ⟨σ', H', J, q⟩ := hs
    exact fin (v' := V.non) (u' := Value.none) J rfl q
  | brk =>
    obtain ⟨_, _, _, q⟩ := hs
    exact False.elim q
  | cont =>
    obtain ⟨_, _, _, q⟩ := hs
    exact False.elim q
end
end BR
end
section
set_option Elab.async false
set_option linter.all false
set_option maxRecDepth 100000
set_option maxHeartbeats 4000000
/-! BrRai: the raise of an own error. -/
namespace BR
open PySem PySem.Calls PySem.Spec PyProof.Rows L2
/-- an own error with one field -/
structure OwnX (P : Program) (w : World) (K : PySem.W.Frag) (mg : Str → Option Value) (base : Heap) (C : Addr) (fld : Str) : Prop where
  oex : OexC K C
  ini : ∃ (fI : Addr) (fd : FuncData) (sel val : Str), PySem.W.findIn K (.ref C) "__init__" = some (some (.ref fI)) ∧ PySem.W.typeIn K (.ref fI) = some (.type "function") ∧ Binds K fd [sel, val] [] ∧ ∀ (CX : CXT) (k : Nat), FnOk P w K mg base CX k fI fd [sel, val] (spX C fld)
theorem rai_of {P : Program} {w : World} {K : PySem.W.Frag} {mg : Str → Option Value} {base : Heap} {W : Wd} {nm : Nms} {T : Tab} {Φ : Phi} (g : Grd K mg W nm T) (own : ∀ c, nm.isr c = true → ∃ f, W.xf c = [f] ∧ OwnX P w K mg base (W.ca c) (W.sym f)) :
    RaiOk P w K mg base W nm T Φ := by
  intro X Wx b c es y ys p1 p2 pos h1 h2 h3 h4 h5 h6
  subst h6
  obtain ⟨f, ef, O⟩ := own c h1
  obtain ⟨fI, fd, sel, val, iC, tI, bd, F⟩ := O.ini
  have ok := bod_xok g b
  have hm := (g.xc c h1).1
  obtain ⟨k, room, _⟩ := b.room
  have oex := O.oex
  obtain ⟨rfl, rfl, rfl, rfl, rfl, calm, nd, tk, _, pown, fn1, stk, frm, ex⟩ := b
  match es, h4 with
  | .nil, h4 =>
    unfold chkEs at h4
    cases h4
  | .star e es, h4 =>
    unfold chkEs at h4
    split at h4 <;> first | (cases h4; done) | skip
    rename_i hy
    cases hy
    simp [isStar] at h5
  | .cons e es, h4 =>
    unfold chkEs at h4
    simp only [Bool.and_eq_true, Bool.not_eq_true'] at h4
    match es, h4.2 with
    | .cons _ _, h => 
      unfold chkEs at h
      cases h
    | .star _ _, h => 
      unfold chkEs at h
      cases h
    | .nil, _ =>
    refine PS.imp (ps_raise calm tk (pmk_oex (CX := fun _ _ _ _ _ _ => False) (k := k) oex iC tI (F _ _) room bd .nil (fun _ _ _ _ _ _ _ h => h.elim) (gl_of h2) hm (pa_cons (E_ok e X Wx ok _ h4.1.2) pa_nil (star_no h4.1.1)) (by unfold nb at h3; simp only [Bool.and_eq_true, Bool.not_eq_true'] at h3; exact h3.1.1) (star_no h4.1.1) rfl)) fun D σ H h => ?_
    obtain ⟨env, st, m, re, rs, s⟩ := h
    have s2 : SemS W Wx st m H (stm env (ev T Φ e env st) fun x st => some (.ex c [x] env st)) D := by
      have e1 : stm env (evs T Φ (.cons e .nil) env st) (fun vs st => some (.ex c vs env st)) = stm env (ev T Φ e env st) fun x st => some (.ex c [x] env st) := by
        simp only [evs, bnd, ret]
        cases ev T Φ e env st with
        | none => rfl
        | some r => cases r <;> rfl
      dsimp only at s
      rw [e1] at s
      exact s
    refine tM.stp re rs s2 fun b H1 a st1 m1 l re1 rs1 rp s1 => ⟨by simp, fun ax ha => ⟨ax, b, rfl, upd_same, fun dx hd hne => ⟨rfl, dx, [(W.sym f, b)], upd_same, by rw [upd_ne hne, upd_same], by rw [upd_ne hne] at hd; exact hd, ?_⟩⟩⟩
    rw [upd_ne hne] at hd
    have eH : ∀ o1 o2 o3, upd (del (upd (upd (upd H1 ax o1) dx o2) ax o3) ax) dx (.xd [(W.sym f, b)]) = upd H1 dx (.xd [(W.sym f, b)]) := fun o1 o2 o3 => by
      funext y
      by_cases h1 : y = dx
      · rw [h1, upd_same, upd_same]
      · rw [upd_ne h1, upd_ne h1]
        by_cases h2 : y = ax
        · rw [h2, del_same, ha]
        · rw [del_ne h2, upd_ne h2, upd_ne h1, upd_ne h2]
    rw [eH]
    exact s1 dx σ _ m1 (Le.new rs1 hd) (rs1.new hd) (re1.le (Le.new rs1 hd)) ⟨[(W.sym f, b)], upd_same, by rw [ef]; rfl, .cons (rp.le (Le.new rs1 hd)) .nil⟩
end BR
end
section
set_option Elab.async false
set_option linter.all false
set_option maxRecDepth 100000
set_option maxHeartbeats 4000000
/-! BrOwn: an own error's facts by a look. -/
namespace BR
open PySem PySem.W PySem.Spec PyProof.Rows L2 He
theorem excB_ok {K : PySem.W.Frag} {C : Addr} (q : excB K C = true) : ∃ nm q N bs bm sn sub ab col dd k0 k1 k2 k3 k5, K.lookup C = some (excClassObj nm q C N bs bm true sn sub ab col dd k0 k1 k2 k3 k5 "ValueError.__new__") ∧ PySem.HandSPX.refsVE bm = true := by
  unfold excB at q
  split at q
  · rename_i t dd cd sl ho
    split at q
    · rename_i C' bm k0 k1 k2 k3 n k5 hm hs
      obtain ⟨h1, q⟩ := ba q
      obtain ⟨h2, q⟩ := ba q
      obtain ⟨h3, q⟩ := ba q
      obtain ⟨h4, q⟩ := ba q
      obtain ⟨h5, h6⟩ := ba q
      have h1 := of_decide_eq_true h1
      have h2 := of_decide_eq_true h2
      have h3 := of_decide_eq_true h3
      subst h1 h2 h3
      obtain ⟨nm, bs, mro, ns, qn, hd, sn, sub, ab, col, del⟩ := cd
      have g4 : del = false := by simpa using h4
      have g5 : hd = true := h5
      clear h4 h5
      dsimp only at hm
      subst hm g4 g5
      have hsl : sl = #[k0, k1, k2, k3, some (.builtin "ValueError.__new__"), k5] := by
        obtain ⟨l⟩ := sl
        simp only at hs
        rw [hs]
      subst hsl
      exact ⟨nm, qn, ns, bs, bm, sn, sub, ab, col, dd, k0, k1, k2, k3, k5, ho, h6⟩
    · cases q
  · cases q
theorem codeB_ok {K : PySem.W.Frag} {d : DefD} {C : Addr} {file : Str} (e : fnC K d.at_ = valC d) (c : codeB K (fAd K d.at_) C d.qual file = true) :
    ∃ oc od osl kV doc pm an cda ct cc, K.lookup (fAd K d.at_) = some ⟨oc, od, .func (ksFn d.name d.qual d.params d.body d.scope .none kV doc pm an (.ref cda) ct cc), osl⟩ ∧ codeIn K (.ref cda) d.qual = true ∧
      (∃ ccl cdd vs ccs tf, K.lookup cda = some ⟨ccl, cdd, .fields vs, ccs⟩ ∧ vs[2]? = some (.str file tf)) ∧ ∃ cl cld csl, K.lookup cc = some ⟨cl, cld, .cell (some (.ref C)), csl⟩ := by
  unfold fnC at e
  unfold codeB at c
  cases q : K.lookup (fAd K d.at_) with
  | none =>
    rw [q] at c
    cases c
  | some o =>
    obtain ⟨oc, od, dt, osl⟩ := o
    rw [q] at c e
    cases dt with
    | func fd =>
      obtain ⟨n1, n2, n3, n4, n5, n6, n7, n8, n9, n10, n11, n12, n13, n14, n15⟩ := fd
      have e2 : @Eq FnW (some (n1, n2, n3, n4, n5, n6, n7.map (fun q => (q.1, (0 : Addr))), n15)) (some (d.name, d.qual, d.params, FuncBody.stmts d.body, d.scope, mainGlobals, [("__class__", (0 : Addr))], builtinsNs)) := e
      simp only [Option.some.injEq, Prod.mk.injEq] at e2
      obtain ⟨h1, h2, h3, h4, h5, h6, h7, h8⟩ := e2
      dsimp only at c
      obtain ⟨c1, ca⟩ := ba c
      obtain ⟨c0, cb⟩ := ba ca
      obtain ⟨c2, c3⟩ := ba cb
      clear c ca cb
      have hn : n8 = .none := by
        split at c0
        · rfl
        · cases c0
      clear c0
      subst hn
      split at c3 <;> first | (cases c3; done) | skip
      rename_i x cc
      split at c3 <;> first | (cases c3; done) | skip
      rename_i z1 z2 b z3 hcc
      have c3 := of_decide_eq_true c3
      split at c2 <;> first | (cases c2; done) | skip
      rename_i cda
      split at c2 <;> first | (cases c2; done) | skip
      rename_i y1 y2 vs y3 hcd
      split at c2 <;> first | (cases c2; done) | skip
      rename_i w1 w2 z tf r hvs
      have c2 := of_decide_eq_true c2
      have hx : x = "__class__" := by simpa using h7
      subst h1 h2 h3 h4 h5 h6 h8 hx c3 c2
      exact ⟨oc, od, osl, n9, n10, n11, n12, cda, n14, cc, rfl, c1, ⟨_, _, vs, _, tf, hcd, by rw [← Array.getElem?_toList, hvs]; rfl⟩, _, _, _, hcc⟩
    | _ => cases c
theorem own_of {P : Program} {w : World} {K : PySem.W.Frag} {mg : Str → Option Value} {base : Heap} {d : DefD} {C : Addr} {fld file txt val sel : Str} {j : Nat} {p0 p1 p2 p3 p4 p5 p6 p7 p8 p9 : Pos} {ar : Arg}
    (e : fnC K d.at_ = valC d) (c : ownB K d.at_ C fld d.qual file = true) (hb : d.body = xinB sel fld val txt j p0 p1 p2 p3 p4 p5 p6 p7 p8 p9)
    (hp : (d.params.posonlyargs ++ d.params.args).head? = some ar) (har : ar.arg = sel)
    (hkind : d.scope.kind = .function) (hco : d.scope.isCoroutine = false) (hgen : d.scope.isGenerator = false) (hnc : ∀ y ∈ d.scope.names, y.2 ≠ .cell) (hsel : d.scope.names.lookup sel = some .local) (hval : d.scope.names.lookup val = some .local) (ne : sel ≠ val)
    (onl : ∀ y, d.scope.names.lookup y = some .cell ∨ d.scope.names.lookup y = some .free → y = "__class__") (hks : d.scope.names.lookup ("super" : Str) = some .globalImplicit) (hkc : d.scope.names.lookup ("__class__" : Str) = some .free)
    (d1 : (sel == ("__debug__" : Str)) = false) (d2 : (sel == ("__classdict__" : Str)) = false) (d3 : (val == ("__debug__" : Str)) = false) (d4 : (val == ("__classdict__" : Str)) = false)
    (hfile : ((P.main.file : Str) == file) = true) (htop : (P.main.scope.names.lookup ("super" : Str)).isSome = false) (hsuper : mg "super" = none)
    (bd : ∀ (kV doc pm : Value) (an : Option Addr) (cdv ct : Value) (cc : Addr) (us : List Value), us.length = 2 → bindArgs (ksFn d.name d.qual d.params d.body d.scope .none kV doc pm an cdv ct cc) ⟨us, []⟩ = pure ([sel, val].zip us))
    {pl : PySem.Env → _root_.PySem.Sem Bool} (hcall : ∀ env : PySem.Env, eval (.Call (.Attribute (.Call (.Name "super" p0) [] [] p1) "__init__" p2) [.Constant (.str txt) j p3] [] p4) env = (do
      let ov ← attributeBase (.Call (.Name "super" p0) [] [] p1) "__init__" env (eval (.Call (.Name "super" p0) [] [] p1) env)
      standAt p2.atName
      let (f, first) ← holding [ov] (getMethod ov "__init__" (pl env))
      callWith p4 f first (backTo p4 (starEach [.Constant (.str txt) j p3] env)) [])) : OwnX P w K mg base C fld := by
  obtain ⟨c1, c⟩ := ba c
  obtain ⟨c2, c⟩ := ba c
  obtain ⟨c3, c⟩ := ba c
  obtain ⟨c4, c⟩ := ba c
  obtain ⟨c5, c⟩ := ba c
  obtain ⟨c6, c⟩ := ba c
  obtain ⟨c7, c⟩ := ba c
  obtain ⟨c8, c⟩ := ba c
  obtain ⟨c9, c⟩ := ba c
  obtain ⟨c10, c⟩ := ba c
  obtain ⟨c11, c⟩ := ba c
  obtain ⟨c12, c13⟩ := ba c
  have T : OexC K C := ⟨excB_ok c13, of_decide_eq_true c1, of_decide_eq_true c2, of_decide_eq_true c3, c4⟩
  obtain ⟨oc, od, osl, kV, doc, pm, an, cda, ct, cc, lk, hcd, ⟨ccl, cdd, vs, ccs, tf, hcode, hvs⟩, cl, cld, csl, hcell⟩ := codeB_ok e c12
  refine ⟨T, fAd K d.at_, _, sel, val, of_decide_eq_true c5, of_decide_eq_true c6, .all (bd kV doc pm an (.ref cda) ct cc), fun CX k => ?_⟩
  obtain ⟨nm, q, N, bs, bm, sn, sub, ab, col, dd, k0, k1, k2, k3, k5, hC, hbm⟩ := T.cls
  have hC2 : ∃ cdC, clsIn K C = some cdC := by
    unfold clsIn
    rw [hC]
    exact ⟨_, rfl⟩
  obtain ⟨cdC, hC2⟩ := hC2
  rw [hb] at lk ⊢
  exact xin_ok lk hcd hp har hkind hco hgen hnc hsel hval ne onl hks hkc d1 d2 d3 d4 hcode hvs hfile htop hcell hC2 (of_decide_eq_true c11) hsuper T (of_decide_eq_true c7) (of_decide_eq_true c8) (of_decide_eq_true c9) (of_decide_eq_true c10) hcall
end BR
end
section
set_option linter.all false
/-! K87Math: the plain mathematics (no program in sight). Moments are whole numbers of a 3000th of an hour. -/
namespace KM
abbrev Edge := Int × Int
abbrev Span := Edge × Option Edge
/-- a difference may be up to the edge -/
def up (e : Edge) (z : Int) : Bool := decide (z < e.1 * 3000) || (decide (z = e.1 * 3000) && decide (e.2 = 1))
def lo (e : Edge) (z : Int) : Bool := decide (e.1 * 3000 < z) || (decide (z = e.1 * 3000) && decide (e.2 = 1))
def inS (s : Span) (z : Int) : Bool := lo s.1 z && (match s.2 with
  | none => true
  | some e => up e z)
structure Stp (S : Type) where
  src : S
  deed : S
  test : List (S × Span)
  res : List S
  tgt : S
structure Crd (S : Type) where
  name : S
  cl : List S
  sts : List (S × List (S × Edge))
  steps : List (Stp S)
  also : List S
section
variable {S : Type} [DecidableEq S]
def stOf (l : List (S × List (S × Edge))) (s : S) : List (S × Edge) := match l with
  | [] => []
  | p :: r => if p.1 = s then p.2 else stOf r s
def stayOk (c : Crd S) (s : S) (rd : S → Int) : Bool := (stOf c.sts s).all fun p => up p.2 (rd p.1)
def testOk (t : List (S × Span)) (rd : S → Int) : Bool := t.all fun p => inS p.2 (rd p.1)
abbrev Std (S : Type) := S × (S → Int)
def restA (c : Crd S) (x : Std S) (g : Int) : Option (Std S) := if stayOk c x.1 (fun s => x.2 s + g) = true then some (x.1, fun s => x.2 s + g) else none
def zer (res : List S) (rd : S → Int) : S → Int := fun s => if s ∈ res then 0 else rd s
def aftA (c : Crd S) (x : Std S) (p : Stp S) : Option (Std S) := if p.src = x.1 ∧ testOk p.test x.2 = true then (if stayOk c p.tgt (zer p.res x.2) = true then some (p.tgt, zer p.res x.2) else none) else none
def walkA (c : Crd S) : Int → Std S → List (Int × Stp S) → Option (Std S)
  | _, x, [] => some x
  | now, x, (m, p) :: r => match restA c x (m - now) with
    | none => none
    | some y => match aftA c y p with
      | none => none
      | some z => walkA c m z r
/-! conditions -/
structure Cnd where
  i : Nat
  j : Nat
  e : Edge
def Cnd.ok (q : Cnd) (x : Nat → Int) : Bool := up q.e (x q.i - x q.j)
/-- the last restart before the k-th entry -/
def lr (sp : List (Stp S)) : Nat → S → Nat
  | 0, _ => 0
  | k + 1, s => match sp[k]? with
    | some p => if s ∈ p.res then k + 1 else lr sp k s
    | none => lr sp k s
def tCo (sp : List (Stp S)) (k : Nat) (t : List (S × Span)) : List Cnd := t.flatMap fun p => ⟨lr sp k p.1, k + 1, (-p.2.1.1, p.2.1.2)⟩ :: (match p.2.2 with
  | none => []
  | some e => [⟨k + 1, lr sp k p.1, e⟩])
def sCo (sp : List (Stp S)) (k : Nat) (t : List (S × Edge)) : List Cnd := t.map fun p => ⟨k + 1, lr sp k p.1, p.2⟩
/-- the conditions from the k-th entry on -/
def cds (c : Crd S) (sp : List (Stp S)) : Nat → S → List (Stp S) → List Cnd
  | k, s, [] => sCo sp k (stOf c.sts s)
  | k, s, p :: r => (⟨k + 1, k + 2, (0, 1)⟩ :: tCo sp k p.test) ++ sCo sp k (stOf c.sts s) ++ cds c sp (k + 1) p.tgt r
/-- the steps follow one another -/
def chn : S → List (Stp S) → Prop
  | _, [] => True
  | s, p :: r => p.src = s ∧ chn p.tgt r
/-- the entries' moments -/
def ents (x : Nat → Int) : Nat → List (Stp S) → List (Int × Stp S)
  | _, [] => []
  | k, p :: r => (x (k + 1), p) :: ents x (k + 1) r
/-- the readings behind the k-th step -/
def rdg (sp : List (Stp S)) (x : Nat → Int) (k : Nat) : S → Int := fun s => x k - x (lr sp k s)
theorem up_mono {e : Edge} {a b : Int} (h : up e b = true) (l : a ≤ b) : up e a = true := by
  unfold up at *
  simp only [Bool.or_eq_true, Bool.and_eq_true, decide_eq_true_eq] at *
  omega
theorem lo_flip (e : Edge) (z : Int) : up (-e.1, e.2) (-z) = lo e z := by
  unfold up lo
  rw [Bool.eq_iff_iff]
  simp only [Bool.or_eq_true, Bool.and_eq_true, decide_eq_true_eq]
  omega
theorem sCo_ok (sp : List (Stp S)) (x : Nat → Int) (k : Nat) (t : List (S × Edge)) : (sCo sp k t).all (·.ok x) = t.all fun p => up p.2 (x (k + 1) - x (lr sp k p.1)) := by
  unfold sCo
  rw [List.all_map]
  rfl
theorem tCo_ok (sp : List (Stp S)) (x : Nat → Int) (k : Nat) (t : List (S × Span)) : (tCo sp k t).all (·.ok x) = t.all fun p => inS p.2 (x (k + 1) - x (lr sp k p.1)) := by
  unfold tCo
  rw [List.all_flatMap]
  congr 1
  funext p
  simp only [List.all_cons, inS]
  have e : Cnd.ok ⟨lr sp k p.1, k + 1, (-p.2.1.1, p.2.1.2)⟩ x = lo p.2.1 (x (k + 1) - x (lr sp k p.1)) := by
    rw [← lo_flip]
    unfold Cnd.ok
    congr 1
    simp only []
    omega
  rw [e]
  cases p.2.2 with
  | none => rfl
  | some e => simp [Cnd.ok]
theorem zer_rdg {sp : List (Stp S)} {x : Nat → Int} {k : Nat} {p : Stp S} (h : sp[k]? = some p) : zer p.res (fun s => rdg sp x k s + (x (k + 1) - x k)) = rdg sp x (k + 1) := by
  funext s
  unfold zer rdg
  rw [lr]
  simp only [h]
  split <;> omega
theorem walk_iff (c : Crd S) (sp : List (Stp S)) (x : Nat → Int) (n : Nat) (hn : sp.length = n) (hx : x (n + 1) = x n) (hm : ∀ k, k < n → x k ≤ x (k + 1)) :
    ∀ (r : List (Stp S)) (k : Nat) (s : S), sp.drop k = r → k ≤ n → chn s r → ((walkA c (x k) (s, rdg sp x k) (ents x k r)).isSome = true ∧ stayOk c s (rdg sp x k) = true ↔ (cds c sp k s r).all (·.ok x) = true) := by
  intro r
  induction r with
  | nil =>
    intro k s hd hk _
    have e : k = n := by
      have := congrArg List.length hd
      simp at this
      omega
    subst e
    simp only [ents, walkA, Option.isSome_some, true_and, cds, sCo_ok, stayOk, rdg, hx]
  | cons p r ih0 =>
    intro k s hd hk hc
    have hk2 : k < n := by
      have := congrArg List.length hd
      simp at this
      omega
    have hp : sp[k]? = some p := by
      have := congrArg (·[0]?) hd
      simpa using this
    have hd2 : sp.drop (k + 1) = r := by
      have := congrArg List.tail hd
      simpa using this
    have ih := ih0 (k + 1) p.tgt hd2 hk2 hc.2
    have l := hm k hk2
    simp only [ents, walkA, cds, List.all_append, List.all_cons, tCo_ok, sCo_ok, Bool.and_eq_true]
    have e1 : Cnd.ok ⟨k + 1, k + 2, (0, 1)⟩ x = true := by
      have hle : x (k + 1) ≤ x (k + 2) := by
        by_cases h : k + 1 < n
        · exact hm (k + 1) h
        · have e : n = k + 1 := by omega
          rw [e] at hx
          exact Int.le_of_eq hx.symm
      unfold Cnd.ok up
      simp only [Bool.or_eq_true, Bool.and_eq_true, decide_eq_true_eq, and_true]
      omega
    have e2 : stayOk c s (fun s => rdg sp x k s + (x (k + 1) - x k)) = (stOf c.sts s).all fun p => up p.2 (x (k + 1) - x (lr sp k p.1)) := by
      unfold stayOk rdg
      congr 1
      funext q
      congr 1
      simp only []
      omega
    have e3 : testOk p.test (fun s => rdg sp x k s + (x (k + 1) - x k)) = p.test.all fun p => inS p.2 (x (k + 1) - x (lr sp k p.1)) := by
      unfold testOk rdg
      congr 1
      funext q
      congr 1
      simp only []
      omega
    unfold restA
    simp only [e1, true_and]
    rw [e2]
    rw [← ih]
    by_cases hs : ((stOf c.sts s).all fun p => up p.2 (x (k + 1) - x (lr sp k p.1))) = true
    · simp only [hs, if_true, and_true]
      unfold aftA
      rw [e3]
      simp only [hc.1, true_and, zer_rdg hp]
      have e4 : stayOk c s (rdg sp x k) = true := by
        unfold stayOk rdg
        rw [List.all_eq_true] at hs ⊢
        intro q hq
        exact up_mono (hs q hq) (by omega)
      simp only [e4, and_true]
      by_cases ht : (p.test.all fun p => inS p.2 (x (k + 1) - x (lr sp k p.1))) = true
      · simp only [ht, if_true, true_and]
        by_cases h5 : stayOk c p.tgt (rdg sp x (k + 1)) = true
        · simp only [h5, if_true, and_true]
        · simp [h5]
      · simp [ht]
    · simp [hs]
end
end KM
end
section
set_option linter.all false
/-! K87Math, second part: tables, and what the rests may be. -/
namespace KM
def eLt (a b : Edge) : Bool := decide (a.1 < b.1) || (decide (a.1 = b.1) && decide (a.2 < b.2))
def least2 (a b : Option Edge) : Option Edge := match a, b with
  | none, b => b
  | some a, none => some a
  | some a, some b => if eLt b a = true then some b else some a
def addC (a b : Option Edge) : Option Edge := match a, b with
  | some a, some b => some (a.1 + b.1, min a.2 b.2)
  | _, _ => none
def cOk (a : Option Edge) (z : Int) : Prop := match a with
  | none => True
  | some e => up e z = true
def rch (e : Edge) : Prop := e.2 = 0 ∨ e.2 = 1
def rchO (a : Option Edge) : Prop := ∀ e, a = some e → rch e
abbrev Tb := Nat → Nat → Option Edge
def satF (N : Nat) (t : Tb) (x : Nat → Int) : Prop := ∀ i j, i < N → j < N → cOk (t i j) (x i - x j)
def rchF (N : Nat) (t : Tb) : Prop := ∀ i j, i < N → j < N → rchO (t i j)
def effF (t : Tb) : Tb := fun i j => if i = 0 ∨ i = j then least2 (t i j) (some (0, 1)) else t i j
def thruF (t : Tb) (k : Nat) : Tb := fun i j => least2 (t i j) (addC (t i k) (t k j))
def itF (t : Tb) : Nat → Tb
  | 0 => effF t
  | k + 1 => thruF (itF t k) k
def tigF (t : Tb) (q : Cnd) : Tb := fun a b => if a = q.i ∧ b = q.j then least2 (t a b) (some q.e) else t a b
theorem up_iff (e : Edge) (z : Int) : up e z = true ↔ z < e.1 * 3000 ∨ (z = e.1 * 3000 ∧ e.2 = 1) := by
  unfold up
  simp only [Bool.or_eq_true, Bool.and_eq_true, decide_eq_true_eq]
theorem lo_iff (e : Edge) (z : Int) : lo e z = true ↔ e.1 * 3000 < z ∨ (z = e.1 * 3000 ∧ e.2 = 1) := by
  unfold lo
  simp only [Bool.or_eq_true, Bool.and_eq_true, decide_eq_true_eq]
theorem eLt_iff (a b : Edge) : eLt a b = true ↔ a.1 < b.1 ∨ (a.1 = b.1 ∧ a.2 < b.2) := by
  unfold eLt
  simp only [Bool.or_eq_true, Bool.and_eq_true, decide_eq_true_eq]
theorem least2_ok {a b : Option Edge} (ha : rchO a) (hb : rchO b) (z : Int) : cOk (least2 a b) z ↔ cOk a z ∧ cOk b z := by
  cases a with
  | none => simp [least2, cOk]
  | some a =>
    cases b with
    | none => simp [least2, cOk]
    | some b =>
      have h1 := ha a rfl
      have h2 := hb b rfl
      unfold rch at h1 h2
      simp only [least2]
      split
      · rename_i h
        rw [eLt_iff] at h
        simp only [cOk, up_iff]
        omega
      · rename_i h
        rw [eLt_iff] at h
        simp only [cOk, up_iff]
        omega
theorem least2_rch {a b : Option Edge} (ha : rchO a) (hb : rchO b) : rchO (least2 a b) := by
  intro e h
  cases a with
  | none => exact hb e h
  | some a =>
    cases b with
    | none => exact ha e h
    | some b =>
      simp only [least2] at h
      split at h
      · exact hb e h
      · exact ha e h
theorem addC_rch {a b : Option Edge} (ha : rchO a) (hb : rchO b) : rchO (addC a b) := by
  intro e h
  cases a with
  | none => cases h
  | some a =>
    cases b with
    | none => cases h
    | some b =>
      have h1 := ha a rfl
      have h2 := hb b rfl
      cases h
      unfold rch at *
      simp only []
      omega
theorem addC_ok {a b : Option Edge} {y z : Int} (ha : cOk a y) (hb : cOk b z) : cOk (addC a b) (y + z) := by
  cases a with
  | none => trivial
  | some a =>
    cases b with
    | none => trivial
    | some b =>
      simp only [cOk, addC, up_iff] at *
      omega
theorem rch01 : rchO (some (0, 1)) := fun e h => by cases h; exact .inr rfl
theorem effF_rch {N : Nat} {t : Tb} (h : rchF N t) : rchF N (effF t) := fun i j hi hj => by
  unfold effF
  split
  · exact least2_rch (h i j hi hj) rch01
  · exact h i j hi hj
theorem effF_ok {N : Nat} {t : Tb} (h : rchF N t) (x : Nat → Int) (h0 : x 0 = 0) : satF N (effF t) x ↔ satF N t x ∧ ∀ j, j < N → 0 ≤ x j := by
  constructor
  · intro s
    refine ⟨fun i j hi hj => ?_, fun j hj => ?_⟩
    · have := s i j hi hj
      unfold effF at this
      split at this
      · exact ((least2_ok (h i j hi hj) rch01 _).mp this).1
      · exact this
    · have h1 := s 0 j (by omega) hj
      unfold effF at h1
      rw [if_pos (.inl rfl), least2_ok (h 0 j (by omega) hj) rch01] at h1
      have h2 := h1.2
      simp only [cOk, up_iff] at h2
      omega
  · intro ⟨s, p⟩ i j hi hj
    unfold effF
    split
    · rename_i hij
      rw [least2_ok (h i j hi hj) rch01]
      refine ⟨s i j hi hj, ?_⟩
      simp only [cOk, up_iff, and_true]
      have := p j hj
      rcases hij with rfl | rfl
      · omega
      · omega
    · exact s i j hi hj
theorem thruF_rch {N k : Nat} {t : Tb} (hk : k < N) (h : rchF N t) : rchF N (thruF t k) := fun i j hi hj => least2_rch (h i j hi hj) (addC_rch (h i k hi hk) (h k j hk hj))
theorem thruF_ok {N k : Nat} {t : Tb} (hk : k < N) (h : rchF N t) (x : Nat → Int) : satF N (thruF t k) x ↔ satF N t x := by
  constructor
  · intro s i j hi hj
    exact ((least2_ok (h i j hi hj) (addC_rch (h i k hi hk) (h k j hk hj)) _).mp (s i j hi hj)).1
  · intro s i j hi hj
    refine (least2_ok (h i j hi hj) (addC_rch (h i k hi hk) (h k j hk hj)) _).mpr ⟨s i j hi hj, ?_⟩
    have := addC_ok (s i k hi hk) (s k j hk hj)
    rwa [show x i - x k + (x k - x j) = x i - x j by omega] at this
theorem itF_rch {N : Nat} {t : Tb} (h : rchF N t) : ∀ k, k ≤ N → rchF N (itF t k)
  | 0, _ => effF_rch h
  | k + 1, hk => thruF_rch hk (itF_rch h k (by omega))
theorem itF_ok {N : Nat} {t : Tb} (h : rchF N t) (x : Nat → Int) : ∀ k, k ≤ N → (satF N (itF t k) x ↔ satF N (effF t) x)
  | 0, _ => .rfl
  | k + 1, hk => (thruF_ok hk (itF_rch h k (by omega)) x).trans (itF_ok h x k (by omega))
/-- the diagonal is never none -/
theorem itF_diag {t : Tb} : ∀ k i, ∃ e, itF t k i i = some e
  | 0, i => by
    simp only [itF, effF]
    rw [if_pos (.inr trivial)]
    cases t i i with
    | none => exact ⟨_, rfl⟩
    | some e =>
      simp only [least2]
      split <;> exact ⟨_, rfl⟩
  | k + 1, i => by
    obtain ⟨e, h⟩ := itF_diag (t := t) k i
    simp only [itF, thruF, h]
    cases addC (itF t k i k) (itF t k k i) with
    | none => exact ⟨_, rfl⟩
    | some f =>
      simp only [least2]
      split <;> exact ⟨_, rfl⟩
theorem diag_ok {N k : Nat} {t : Tb} {x : Nat → Int} {e : Edge} (hk : k < N) (s : satF N t x) (h : t k k = some e) (hr : rchO (t k k)) : eLt e (0, 1) = false := by
  have h1 := s k k hk hk
  have h2 := hr e h
  rw [h] at h1
  simp only [cOk, up_iff] at h1
  unfold rch at h2
  rw [Bool.eq_false_iff]
  intro h3
  rw [eLt_iff] at h3
  simp only [] at h3
  omega
theorem tigF_rch {N : Nat} {t : Tb} {q : Cnd} (h : rchF N t) (hq : rch q.e) : rchF N (tigF t q) := fun i j hi hj => by
  unfold tigF
  split
  · exact least2_rch (h i j hi hj) fun e z => by cases z; exact hq
  · exact h i j hi hj
theorem tigF_ok {N : Nat} {t : Tb} {q : Cnd} (h : rchF N t) (hq : rch q.e) (hi : q.i < N) (hj : q.j < N) (x : Nat → Int) : satF N (tigF t q) x ↔ satF N t x ∧ q.ok x = true := by
  have hs : rchO (some q.e) := fun e z => by cases z; exact hq
  constructor
  · intro s
    refine ⟨fun a b ha hb => ?_, ?_⟩
    · have := s a b ha hb
      unfold tigF at this
      split at this
      · exact ((least2_ok (h a b ha hb) hs _).mp this).1
      · exact this
    · have := s q.i q.j hi hj
      unfold tigF at this
      rw [if_pos ⟨rfl, rfl⟩] at this
      exact ((least2_ok (h _ _ hi hj) hs _).mp this).2
  · intro ⟨s, o⟩ a b ha hb
    unfold tigF
    split
    · rename_i e
      obtain ⟨rfl, rfl⟩ := e
      exact (least2_ok (h _ _ hi hj) hs _).mpr ⟨s _ _ hi hj, o⟩
    · exact s a b ha hb
theorem tigs_ok {N : Nat} : ∀ (qs : List Cnd) (t : Tb), rchF N t → (∀ q ∈ qs, rch q.e ∧ q.i < N ∧ q.j < N) → rchF N (qs.foldl tigF t) ∧ ∀ x, (satF N (qs.foldl tigF t) x ↔ satF N t x ∧ qs.all (·.ok x) = true)
  | [], t, h, _ => ⟨h, fun x => by simp⟩
  | q :: qs, t, h, hq => by
    obtain ⟨h1, h2, h3⟩ := hq q (by simp)
    obtain ⟨a, b⟩ := tigs_ok qs (tigF t q) (tigF_rch h h1) fun q' m => hq q' (by simp [m])
    refine ⟨a, fun x => ?_⟩
    simp only [List.foldl_cons, List.all_cons, Bool.and_eq_true]
    rw [b, tigF_ok h h1 h2 h3, and_assoc]
def noT : Tb := fun _ _ => none
/-- the told table -/
def ptF (N : Nat) (qs : List Cnd) : Tb := itF (qs.foldl tigF noT) N
theorem noT_rch {N : Nat} : rchF N noT := fun _ _ _ _ _ h => by cases h
theorem noT_ok {N : Nat} {x : Nat → Int} : satF N noT x := fun _ _ _ _ => trivial
theorem ptF_rch {N : Nat} {qs : List Cnd} (h : ∀ q ∈ qs, rch q.e ∧ q.i < N ∧ q.j < N) : rchF N (ptF N qs) := itF_rch (tigs_ok qs noT noT_rch h).1 N (Nat.le_refl _)
theorem ptF_ok {N : Nat} {qs : List Cnd} (h : ∀ q ∈ qs, rch q.e ∧ q.i < N ∧ q.j < N) {x : Nat → Int} (h0 : x 0 = 0) : satF N (ptF N qs) x ↔ qs.all (·.ok x) = true ∧ ∀ j, j < N → 0 ≤ x j := by
  obtain ⟨a, b⟩ := tigs_ok qs noT noT_rch h
  unfold ptF
  rw [itF_ok a x N (Nat.le_refl _), effF_ok a x h0, b]
  constructor
  · exact fun ⟨⟨_, p⟩, q⟩ => ⟨p, q⟩
  · exact fun ⟨p, q⟩ => ⟨⟨noT_ok, p⟩, q⟩
/-! ### the rests -/
abbrev Bd := Int × Int
def loB (b : Bd) (t : Int) : Prop := b.1 < t ∨ (t = b.1 ∧ b.2 = 1)
def upB (b : Bd) (t : Int) : Prop := t < b.1 ∨ (t = b.1 ∧ b.2 = 1)
def upO (b : Option Bd) (t : Int) : Prop := match b with
  | none => True
  | some b => upB b t
def loO (b : Option Bd) (t : Int) : Prop := match b with
  | none => True
  | some b => loB b t
/-- 1/60 of an hour, and a reach -/
def gd (b : Bd) : Prop := 50 ∣ b.1 ∧ (b.2 = 0 ∨ b.2 = 1)
def gdO (b : Option Bd) : Prop := ∀ c, b = some c → gd c
def lesH (f : Option Bd) (s : Bd) : Bd := match f with
  | none => s
  | some f => if f.1 < s.1 ∨ (f.1 = s.1 ∧ f.2 = 0) then f else s
def greL (f s : Bd) : Bd := if s.1 < f.1 ∨ (f.1 = s.1 ∧ f.2 = 0) then f else s
def lowB (oth : Int) (e : Edge) : Bd := if -e.1 * 3000 < oth then (0, 1) else (-e.1 * 3000 - oth, e.2)
abbrev Sl := Bd × Option Bd
def slS (x : Nat → Int) (p : Nat) (s : Sl) (q : Cnd) : Sl :=
  if q.j ≤ p ∧ p < q.i then (s.1, some (lesH s.2 (q.e.1 * 3000 - ((x q.i - x q.j) - (x (p + 1) - x p)), q.e.2)))
  else if q.i ≤ p ∧ p < q.j then (greL s.1 (lowB ((x q.j - x q.i) - (x (p + 1) - x p)) q.e), s.2)
  else s
def slA (x : Nat → Int) (p : Nat) (qs : List Cnd) : Sl := qs.foldl (slS x p) ((0, 1), none)
/-- the moments when the rest is t -/
def shf (x : Nat → Int) (p : Nat) (t : Int) (i : Nat) : Int := if i ≤ p then x i else x i + (t - (x (p + 1) - x p))
theorem lesH_ok {f : Option Bd} {s : Bd} (hf : gdO f) (hs : gd s) (t : Int) : upB (lesH f s) t ↔ upO f t ∧ upB s t := by
  cases f with
  | none => simp [lesH, upO]
  | some f =>
    have h1 := hf f rfl
    unfold gd at h1 hs
    simp only [lesH, upO]
    split
    · unfold upB
      omega
    · unfold upB
      omega
theorem greL_ok {f s : Bd} (hf : gd f) (hs : gd s) (t : Int) : loB (greL f s) t ↔ loB f t ∧ loB s t := by
  unfold gd at hf hs
  unfold greL
  split
  · unfold loB
    omega
  · unfold loB
    omega
theorem lesH_gd {f : Option Bd} {s : Bd} (hf : gdO f) (hs : gd s) : gd (lesH f s) := by
  cases f with
  | none => exact hs
  | some f =>
    simp only [lesH]
    split
    · exact hf f rfl
    · exact hs
theorem greL_gd {f s : Bd} (hf : gd f) (hs : gd s) : gd (greL f s) := by
  unfold greL
  split
  · exact hf
  · exact hs
theorem lowB_gd {o : Int} {e : Edge} (ho : 50 ∣ o) (he : rch e) : gd (lowB o e) := by
  unfold lowB gd
  unfold rch at he
  split
  · exact ⟨by simp, .inr rfl⟩
  · exact ⟨by simp only []; omega, he⟩
theorem slS_ok {x : Nat → Int} {p : Nat} {s : Sl} {q : Cnd} (hx : ∀ i, 50 ∣ x i) (hq : rch q.e) (ok : q.ok x = true) (h1 : gd s.1) (h2 : gdO s.2) :
    gd (slS x p s q).1 ∧ gdO (slS x p s q).2 ∧ ∀ t, 0 ≤ t → (loB (slS x p s q).1 t ∧ upO (slS x p s q).2 t ↔ (loB s.1 t ∧ upO s.2 t) ∧ q.ok (shf x p t) = true) := by
  have hi := hx q.i
  have hj := hx q.j
  have hp := hx p
  have hp1 := hx (p + 1)
  unfold Cnd.ok at *
  rw [up_iff] at ok
  unfold slS
  split
  · rename_i c
    have g1 : gd (q.e.1 * 3000 - ((x q.i - x q.j) - (x (p + 1) - x p)), q.e.2) := ⟨by simp only []; omega, hq⟩
    refine ⟨h1, fun _ h => by cases h; exact lesH_gd h2 g1, fun t _ => ?_⟩
    simp only [upO]
    rw [lesH_ok h2 g1, and_assoc]
    refine and_congr_right fun _ => and_congr_right fun _ => ?_
    rw [up_iff]
    unfold shf upB
    rw [if_neg (by omega), if_pos (by omega)]
    simp only []
    omega
  · split
    · rename_i c
      have g1 : gd (lowB ((x q.j - x q.i) - (x (p + 1) - x p)) q.e) := lowB_gd (by omega) hq
      refine ⟨greL_gd h1 g1, h2, fun t ht => ?_⟩
      simp only []
      rw [greL_ok h1 g1]
      have e : loB (lowB ((x q.j - x q.i) - (x (p + 1) - x p)) q.e) t ↔ up q.e (shf x p t q.i - shf x p t q.j) = true := by
        rw [up_iff]
        unfold shf
        rw [if_pos (by omega), if_neg (by omega)]
        unfold lowB loB
        unfold rch at hq
        split
        · simp only [and_true]
          omega
        · simp only []
          omega
      rw [e]
      constructor
      · exact fun ⟨⟨a, b⟩, c⟩ => ⟨⟨a, c⟩, b⟩
      · exact fun ⟨⟨a, c⟩, b⟩ => ⟨⟨a, b⟩, c⟩
    · rename_i c1 c2
      refine ⟨h1, h2, fun t _ => ?_⟩
      have e : up q.e (shf x p t q.i - shf x p t q.j) = true := by
        rw [up_iff]
        unfold shf
        by_cases h : q.i ≤ p
        · rw [if_pos h, if_pos (by omega)]
          exact ok
        · rw [if_neg h, if_neg (by omega)]
          omega
      rw [e]
      simp
theorem sls_ok {x : Nat → Int} {p : Nat} (hx : ∀ i, 50 ∣ x i) : ∀ (qs : List Cnd) (s : Sl), (∀ q ∈ qs, rch q.e ∧ q.ok x = true) → gd s.1 → gdO s.2 →
    gd (qs.foldl (slS x p) s).1 ∧ gdO (qs.foldl (slS x p) s).2 ∧ ∀ t, 0 ≤ t → (loB (qs.foldl (slS x p) s).1 t ∧ upO (qs.foldl (slS x p) s).2 t ↔ (loB s.1 t ∧ upO s.2 t) ∧ qs.all (·.ok (shf x p t)) = true)
  | [], s, _, h1, h2 => ⟨h1, h2, fun t _ => by simp⟩
  | q :: qs, s, h, h1, h2 => by
    obtain ⟨r, o⟩ := h q (by simp)
    obtain ⟨g1, g2, g3⟩ := slS_ok (p := p) hx r o h1 h2
    obtain ⟨k1, k2, k3⟩ := sls_ok hx qs (slS x p s q) (fun q' m => h q' (by simp [m])) g1 g2
    refine ⟨k1, k2, fun t ht => ?_⟩
    simp only [List.foldl_cons, List.all_cons, Bool.and_eq_true]
    rw [k3 t ht, g3 t ht, and_assoc]
theorem greL_le {f s : Bd} : f.1 ≤ (greL f s).1 := by
  unfold greL
  split
  · exact Int.le_refl _
  · omega
theorem slS_le {x : Nat → Int} {p : Nat} {s : Sl} {q : Cnd} : s.1.1 ≤ (slS x p s q).1.1 := by
  unfold slS
  split
  · exact Int.le_refl _
  · split
    · exact greL_le
    · exact Int.le_refl _
theorem sls_le {x : Nat → Int} {p : Nat} : ∀ (qs : List Cnd) (s : Sl), s.1.1 ≤ (qs.foldl (slS x p) s).1.1
  | [], _ => Int.le_refl _
  | q :: qs, s => Int.le_trans slS_le (sls_le qs _)
theorem slA_ok {x : Nat → Int} {p : Nat} {qs : List Cnd} (hx : ∀ i, 50 ∣ x i) (h : ∀ q ∈ qs, rch q.e ∧ q.ok x = true) :
    gd (slA x p qs).1 ∧ gdO (slA x p qs).2 ∧ 0 ≤ (slA x p qs).1.1 ∧ ∀ t, 0 ≤ t → (loB (slA x p qs).1 t ∧ upO (slA x p qs).2 t ↔ qs.all (·.ok (shf x p t)) = true) := by
  obtain ⟨a, b, c⟩ := sls_ok (p := p) hx qs ((0, 1), none) h ⟨by simp, .inr rfl⟩ (fun _ h => by cases h)
  refine ⟨a, b, sls_le (x := x) (p := p) qs ((0, 1), none), fun t ht => ?_⟩
  unfold slA
  rw [c t ht]
  have e : loB ((0, 1) : Bd) t := by
    unfold loB
    simp only [and_true]
    omega
  simp [e, upO]
/-! the piece of the table -/
def hiS (h : Option Bd) (b : Bd) : Option Bd := match h with
  | none => some b
  | some h => if b.1 < h.1 ∨ (b.1 = h.1 ∧ b.2 < h.2) then some b else some h
def loS (h : Option Bd) (b : Bd) : Option Bd := match h with
  | none => some b
  | some h => if h.1 < b.1 ∨ (b.1 = h.1 ∧ b.2 < h.2) then some b else some h
abbrev Pc := Option Bd × Option Bd
def pcS (t : Tb) (x : Nat → Int) (p : Nat) (s : Pc) (ij : Nat × Nat) : Pc :=
  ((match t ij.2 ij.1 with
    | none => s.1
    | some e => loS s.1 ((x (p + 1) - x p) + x ij.2 - x ij.1 - e.1 * 3000, e.2)),
   (match t ij.1 ij.2 with
    | none => s.2
    | some e => hiS s.2 ((x (p + 1) - x p) + x ij.2 - x ij.1 + e.1 * 3000, e.2)))
theorem hiS_ok {h : Option Bd} {b : Bd} (hh : gdO h) (hb : gd b) (t : Int) : gdO (hiS h b) ∧ (upO (hiS h b) t ↔ upO h t ∧ upB b t) := by
  cases h with
  | none => exact ⟨fun _ z => by cases z; exact hb, by simp [hiS, upO]⟩
  | some h =>
    have h1 := hh h rfl
    have hb' := hb
    unfold gd at h1 hb
    simp only [hiS]
    split
    · refine ⟨fun _ z => by cases z; exact hb', ?_⟩
      unfold upO upB
      simp only []
      omega
    · refine ⟨hh, ?_⟩
      unfold upO upB
      simp only []
      omega
theorem loS_ok {h : Option Bd} {b : Bd} (hh : gdO h) (hb : gd b) (t : Int) : gdO (loS h b) ∧ (loO (loS h b) t ↔ loO h t ∧ loB b t) := by
  cases h with
  | none => exact ⟨fun _ z => by cases z; exact hb, by simp [loS, loO]⟩
  | some h =>
    have h1 := hh h rfl
    have hb' := hb
    unfold gd at h1 hb
    simp only [loS]
    split
    · refine ⟨fun _ z => by cases z; exact hb', ?_⟩
      unfold loO loB
      simp only []
      omega
    · refine ⟨hh, ?_⟩
      unfold loO loB
      simp only []
      omega
theorem pcS_ok {T : Tb} {x : Nat → Int} {p : Nat} {s : Pc} {ij : Nat × Nat} (hx : ∀ i, 50 ∣ x i) (h1 : gdO s.1) (h2 : gdO s.2) (r1 : rchO (T ij.1 ij.2)) (r2 : rchO (T ij.2 ij.1)) (hi : p < ij.1) (hj : ij.2 ≤ p) (t : Int) :
    gdO (pcS T x p s ij).1 ∧ gdO (pcS T x p s ij).2 ∧ (loO (pcS T x p s ij).1 t ∧ upO (pcS T x p s ij).2 t ↔ (loO s.1 t ∧ upO s.2 t) ∧ cOk (T ij.1 ij.2) (shf x p t ij.1 - shf x p t ij.2) ∧ cOk (T ij.2 ij.1) (shf x p t ij.2 - shf x p t ij.1)) := by
  have d1 := hx ij.1
  have d2 := hx ij.2
  have d3 := hx p
  have d4 := hx (p + 1)
  have A : gdO (pcS T x p s ij).1 ∧ (loO (pcS T x p s ij).1 t ↔ loO s.1 t ∧ cOk (T ij.2 ij.1) (shf x p t ij.2 - shf x p t ij.1)) := by
    unfold pcS
    cases e : T ij.2 ij.1 with
    | none => exact ⟨h1, by simp [cOk]⟩
    | some f =>
      have r := r2 f e
      simp only []
      obtain ⟨k1, k2⟩ := loS_ok h1 (b := ((x (p + 1) - x p) + x ij.2 - x ij.1 - f.1 * 3000, f.2)) ⟨by simp only []; omega, r⟩ t
      refine ⟨k1, k2.trans (and_congr_right fun _ => ?_)⟩
      simp only [cOk, up_iff]
      unfold loB shf
      rw [if_pos hj, if_neg (by omega)]
      simp only []
      omega
  have B : gdO (pcS T x p s ij).2 ∧ (upO (pcS T x p s ij).2 t ↔ upO s.2 t ∧ cOk (T ij.1 ij.2) (shf x p t ij.1 - shf x p t ij.2)) := by
    unfold pcS
    cases e : T ij.1 ij.2 with
    | none => exact ⟨h2, by simp [cOk]⟩
    | some f =>
      have r := r1 f e
      simp only []
      obtain ⟨k1, k2⟩ := hiS_ok h2 (b := ((x (p + 1) - x p) + x ij.2 - x ij.1 + f.1 * 3000, f.2)) ⟨by simp only []; omega, r⟩ t
      refine ⟨k1, k2.trans (and_congr_right fun _ => ?_)⟩
      simp only [cOk, up_iff]
      unfold upB shf
      rw [if_pos hj, if_neg (by omega)]
      simp only []
      omega
  refine ⟨A.1, B.1, ?_⟩
  rw [A.2, B.2]
  constructor
  · exact fun ⟨⟨a, b⟩, c, d⟩ => ⟨⟨a, c⟩, d, b⟩
  · exact fun ⟨⟨a, c⟩, d, b⟩ => ⟨⟨a, b⟩, c, d⟩
theorem pcs_ok {T : Tb} {x : Nat → Int} {p N : Nat} (hx : ∀ i, 50 ∣ x i) (hr : rchF N T) (hp : p < N) (t : Int) : ∀ (l : List (Nat × Nat)) (s : Pc), (∀ ij ∈ l, p < ij.1 ∧ ij.1 < N ∧ ij.2 ≤ p) → gdO s.1 → gdO s.2 →
    gdO (l.foldl (pcS T x p) s).1 ∧ gdO (l.foldl (pcS T x p) s).2 ∧ (loO (l.foldl (pcS T x p) s).1 t ∧ upO (l.foldl (pcS T x p) s).2 t ↔ (loO s.1 t ∧ upO s.2 t) ∧ ∀ ij ∈ l, cOk (T ij.1 ij.2) (shf x p t ij.1 - shf x p t ij.2) ∧ cOk (T ij.2 ij.1) (shf x p t ij.2 - shf x p t ij.1))
  | [], s, _, h1, h2 => ⟨h1, h2, by simp⟩
  | ij :: l, s, h, h1, h2 => by
    obtain ⟨a1, a2, a3⟩ := h ij (by simp)
    obtain ⟨g1, g2, g3⟩ := pcS_ok (T := T) hx h1 h2 (hr _ _ a2 (by omega)) (hr _ _ (by omega) a2) a1 a3 t
    obtain ⟨k1, k2, k3⟩ := pcs_ok hx hr hp t l (pcS T x p s ij) (fun q' m => h q' (by simp [m])) g1 g2
    refine ⟨k1, k2, ?_⟩
    simp only [List.foldl_cons, List.mem_cons, forall_eq_or_imp]
    rw [k3, g3, and_assoc]
def prs (N p : Nat) : List (Nat × Nat) := (List.range (N - (p + 1))).flatMap fun a => (List.range (p + 1)).map fun b => (p + 1 + a, b)
theorem prs_mem {N p : Nat} (hp : p < N) (i j : Nat) : (i, j) ∈ prs N p ↔ p < i ∧ i < N ∧ j ≤ p := by
  unfold prs
  simp only [List.mem_flatMap, List.mem_range, List.mem_map, Prod.mk.injEq]
  constructor
  · rintro ⟨a, ha, b, hb, rfl, rfl⟩
    omega
  · intro ⟨h1, h2, h3⟩
    exact ⟨i - (p + 1), by omega, j, by omega, by omega, rfl⟩
def pcA (T : Tb) (x : Nat → Int) (N p : Nat) : Pc := (prs N p).foldl (pcS T x p) (none, none)
theorem pcA_ok {T : Tb} {x : Nat → Int} {p N : Nat} (hx : ∀ i, 50 ∣ x i) (hr : rchF N T) (hp : p < N) (hs : satF N T x) (t : Int) :
    gdO (pcA T x N p).1 ∧ gdO (pcA T x N p).2 ∧ (loO (pcA T x N p).1 t ∧ upO (pcA T x N p).2 t ↔ satF N T (shf x p t)) := by
  obtain ⟨a, b, c⟩ := pcs_ok hx hr hp t (prs N p) (none, none) (fun ij m => (prs_mem hp ij.1 ij.2).mp m) (fun _ h => by cases h) (fun _ h => by cases h)
  refine ⟨a, b, ?_⟩
  unfold pcA
  rw [c]
  simp only [loO, upO, true_and]
  constructor
  · intro h i j hi hj
    by_cases h1 : i ≤ p
    · by_cases h2 : j ≤ p
      · unfold shf
        rw [if_pos h1, if_pos h2]
        exact hs i j hi hj
      · exact (h (j, i) ((prs_mem hp j i).mpr ⟨by omega, hj, h1⟩)).2
    · by_cases h2 : j ≤ p
      · exact (h (i, j) ((prs_mem hp i j).mpr ⟨by omega, hi, h2⟩)).1
      · unfold shf
        rw [if_neg h1, if_neg h2]
        have := hs i j hi hj
        rwa [show x i + (t - (x (p + 1) - x p)) - (x j + (t - (x (p + 1) - x p))) = x i - x j by omega]
  · intro h ij m
    obtain ⟨h1, h2, h3⟩ := (prs_mem hp ij.1 ij.2).mp m
    exact ⟨h _ _ h2 (by omega), h _ _ (by omega) h2⟩
theorem same {l1 : Bd} {h1 : Option Bd} {l2 : Option Bd} {h2 : Option Bd} (a1 : gd l1) (a2 : gdO h1) (a3 : gdO l2) (a4 : gdO h2) {p : Int} (w1 : loB l1 p ∧ upO h1 p)
    (h : ∀ t, loB l1 t ∧ upO h1 t ↔ loO l2 t ∧ upO h2 t) : l2 = some l1 ∧ h2 = h1 := by
  have w2 := (h p).mp w1
  have L : ∃ c, l2 = some c := by
    cases l2 with
    | some c => exact ⟨c, rfl⟩
    | none =>
      exfalso
      have hq : upO h2 (min p l1.1 - 1) := by
        cases h2 with
        | none => trivial
        | some b =>
          have := w2.2
          simp only [upO, upB] at this ⊢
          omega
      have := ((h (min p l1.1 - 1)).mpr ⟨trivial, hq⟩).1
      unfold loB at this
      omega
  obtain ⟨l2, rfl⟩ := L
  have g2 := a3 l2 rfl
  simp only [loO] at h w2
  unfold gd at a1 g2
  have e1 : l1 = l2 := by
    have k1 := h (l1.1)
    have k2 := h (l2.1)
    have k3 := h (l1.1 + 1)
    have k4 := h (l2.1 + 1)
    have up1 : ∀ t, t ≤ p → t < p ∨ t = p := fun t _ => by omega
    have u1 : ∀ t, t ≤ p → upO h1 t := fun t ht => by
      cases h1 with
      | none => trivial
      | some b =>
        have := w1.2
        simp only [upO, upB] at this ⊢
        omega
    have u2 : ∀ t, t ≤ p → upO h2 t := fun t ht => by
      cases h2 with
      | none => trivial
      | some b =>
        have := w2.2
        simp only [upO, upB] at this ⊢
        omega
    have E : ∀ t, t ≤ p → (loB l1 t ↔ loB l2 t) := fun t ht => by
      have := h t
      simp only [u1 t ht, u2 t ht, and_true] at this
      exact this
    have b1 := w1.1
    have b2 := w2.1
    have q1 := E l1.1
    have q2 := E l2.1
    have q3 := E (l1.1 + 1)
    have q4 := E (l2.1 + 1)
    unfold loB at b1 b2 q1 q2 q3 q4
    refine Prod.ext ?_ ?_
    · omega
    · omega
  subst e1
  refine ⟨rfl, ?_⟩
  have d1 : ∀ t, p ≤ t → loB l1 t := fun t ht => by
    have := w1.1
    unfold loB at this ⊢
    omega
  have E : ∀ t, p ≤ t → (upO h1 t ↔ upO h2 t) := fun t ht => by
    have := h t
    simp only [d1 t ht, true_and] at this
    exact this
  cases h1 with
  | none =>
    cases h2 with
    | none => rfl
    | some b =>
      exfalso
      have := (E (max p b.1 + 1) (by omega)).mp trivial
      simp only [upO, upB] at this
      omega
  | some a =>
    cases h2 with
    | none =>
      exfalso
      have := (E (max p a.1 + 1) (by omega)).mpr trivial
      simp only [upO, upB] at this
      omega
    | some b =>
      have c1 := a2 a rfl
      have c2 := a4 b rfl
      unfold gd at c1 c2
      have b1 := w1.2
      have b2 := w2.2
      have q1 := E a.1
      have q2 := E b.1
      have q3 := E (a.1 - 1)
      have q4 := E (b.1 - 1)
      simp only [upO, upB] at b1 b2 q1 q2 q3 q4
      have e : a = b := by
        refine Prod.ext ?_ ?_
        · omega
        · omega
      rw [e]
end KM
end
section
set_option Elab.async false
set_option linter.all false
set_option maxRecDepth 100000
set_option maxHeartbeats 4000000
/-! W1: general lemmas about the evaluator: loops, ends of defs, values. -/
namespace K87
open PySem hiding Env exec
open BR KM
/-! ### purity -/
theorem pus_all : ∀ (l : List PV), PV.pus l = l.all PV.pu
  | [] => rfl
  | x :: l => by rw [PV.pus, List.all_cons, pus_all l]
theorem pus_map {α : Type} (f : α → PV) (l : List α) (h : ∀ a ∈ l, PV.pu (f a) = true) : PV.pus (l.map f) = true := by
  rw [pus_all, List.all_map, List.all_eq_true]
  exact h
theorem pus_append (a b : List PV) : PV.pus (a ++ b) = (PV.pus a && PV.pus b) := by
  rw [pus_all, pus_all, pus_all, List.all_append]
mutual
theorem be_pu (n : Nat) : ∀ (x : PV), PV.pu x = true → PV.be n x = true
  | .non, _ | .bl _, _ | .int _, _ | .str _, _ | .fn _, _ => rfl
  | .ref _, h => by cases h
  | .tup xs, h => bes_pu n xs h
  | .lst xs, h => bes_pu n xs h
  | .arg xs, h => bes_pu n xs h
  | .tpd xs, h => bes_pu n xs h
  | .dct _ xs, h => bes_pu n xs h
  | .obj _ _ xs, h => bes_pu n xs h
theorem bes_pu (n : Nat) : ∀ (xs : List PV), PV.pus xs = true → PV.bes n xs = true
  | [], _ => rfl
  | x :: xs, h => by
    rw [PV.pus, Bool.and_eq_true] at h
    rw [PV.bes, be_pu n x h.1, bes_pu n xs h.2]
    rfl
end
/-- a pure cell -/
def Cell.pu : Cell → Bool
  | .dead => true
  | .lst xs => PV.pus xs
  | .dct _ vs => PV.pus vs
  | .obj _ _ vs => PV.pus vs
theorem cell_be {c : Cell} (h : Cell.pu c = true) (n : Nat) : Cell.be n c = true := by
  cases c with
  | dead => rfl
  | lst xs => exact bes_pu _ _ h
  | dct ks vs => exact bes_pu _ _ h
  | obj c f vs => exact bes_pu _ _ h
def StP (st : Sto) : Prop := st.all Cell.pu = true
theorem cuts_ext (st ext : Sto) : cuts st (st ++ ext) := ⟨by simp, .inl (by simp)⟩
theorem cuts_pu {st st' ext : Sto} (hl : st'.length = st.length) (hp : StP st') : cuts st (st' ++ ext) := by
  refine ⟨by simp [hl], .inr ?_⟩
  rw [← hl, List.take_left', List.all_eq_true]
  · intro c hc
    exact cell_be (List.all_eq_true.mp hp c hc) _
  · rfl
/-! ### ends of defs -/
@[simp] theorem fin_rt {v : PV} {env : Env} {st : Sto} : fin st (some (.ok (.rt v) env st)) = some (.ok v st) := by
  simp only [fin]
  split
  · simp
  · rfl
@[simp] theorem fin_nx {env : Env} {st : Sto} : fin st (some (.ok .nx env st)) = some (.ok .non st) := by
  simp only [fin]
  split
  · simp
  · rfl
@[simp] theorem fin_rtE {v : PV} {env : Env} {st ext : Sto} (h : PV.pu v = true) : fin st (some (.ok (.rt v) env (st ++ ext))) = some (.ok v st) := by
  simp only [fin]
  rw [if_pos ⟨h, cuts_ext st ext⟩]
  simp
@[simp] theorem fin_nxE {env : Env} {st ext : Sto} : fin st (some (.ok .nx env (st ++ ext))) = some (.ok .non st) := by
  simp only [fin]
  rw [if_pos (cuts_ext st ext)]
  simp
theorem fin_rtP {v : PV} {env : Env} {st st' ext : Sto} (h : PV.pu v = true) (hl : st'.length = st.length) (hp : StP st') : fin st (some (.ok (.rt v) env (st' ++ ext))) = some (.ok v st') := by
  simp only [fin]
  rw [if_pos ⟨h, cuts_pu hl hp⟩, ← hl, List.take_left' rfl]
@[simp] theorem fin_ex {c : Nat} {vs : List PV} {env : Env} {st : Sto} : fin st (some (.ex c vs env st)) = some (.ex c vs st) := by
  simp only [fin]
  split
  · simp
  · rfl
theorem run_eq {f k : Nat} {d : Fd} {args : List PV} {env : Env} {st : Sto} (h : fns f = some d) (hp : pars d args = some env) : runF tab (k + 1) f args st = fin st (exec tab (runF tab k) d.body env st) := by
  show (match tab.fns f with
    | none => none
    | some d => match pars d args with
      | none => none
      | some env => fin st (exec tab (runF tab k) d.body env st)) = _
  have e : tab.fns f = some d := h
  rw [e]
  simp only [hp]
/-! ### loops -/
@[simp] theorem gok_none (st : Sto) : gok none st ↔ True := .rfl
/-- what a loop's round hands on -/
def rnd (I : Env → Sto → Prop) (R : SRe → Prop) : SRe → Prop
  | .ok .nx e s => I e s
  | .ok .ct e s => I e s
  | .ok .bk e s => R (.ok .nx e s)
  | r => R r
theorem forL_ind {τ : Type} (enc : τ → PV) {g : Sto → Prop} [DecidablePred g] {f : PV → Env → Sto → SM} {R : SRe → Prop} (I : List τ → Env → Sto → Prop)
    (hg : ∀ l env st, I l env st → g st) (hn : ∀ env st, I [] env st → R (.ok .nx env st))
    (hc : ∀ v l env st, I (v :: l) env st → ∃ r, f (enc v) env st = some r ∧ rnd (I l) R r) :
    ∀ (l : List τ) (env : Env) (st : Sto), I l env st → ∃ r, forL g f (l.map enc) env st = some r ∧ R r
  | [], env, st, h => ⟨_, by simp only [List.map_nil, forL]; rw [if_pos (hg _ _ _ h)], hn _ _ h⟩
  | v :: l, env, st, h => by
    obtain ⟨r, e, q⟩ := hc v l env st h
    simp only [List.map_cons, forL]
    rw [if_pos (hg _ _ _ h), e]
    cases r with
    | ex c vs env st => exact ⟨_, rfl, q⟩
    | ok fl env st =>
      cases fl with
      | nx => exact forL_ind enc I hg hn hc l env st q
      | ct => exact forL_ind enc I hg hn hc l env st q
      | bk => exact ⟨_, rfl, q⟩
      | rt v => exact ⟨_, rfl, q⟩
/-- a def that is a loop and what stands behind it -/
theorem for_finE {τ : Type} (enc : τ → PV) {g : Sto → Prop} [DecidablePred g] {f : PV → Env → Sto → SM} {k : Env → Sto → SM} {st0 : Sto} {Pr : PV → Sto → Prop} {xs : List PV} (I : List τ → Env → Sto → Prop) (l : List τ) (hx : xs = l.map enc) {env : Env} {st : Sto} (h : I l env st)
    (hg : ∀ l env st, I l env st → g st) (hn : ∀ env st, I [] env st → ∃ v st', fin st0 (k env st) = some (.ok v st') ∧ Pr v st')
    (hc : ∀ v l env st, I (v :: l) env st → ∃ r, f (enc v) env st = some r ∧ rnd (I l) (fun r => ∃ v st', fin st0 (sq (some r) k) = some (.ok v st') ∧ Pr v st') r) :
    ∃ v st', fin st0 (sq (forL g f xs env st) k) = some (.ok v st') ∧ Pr v st' := by
  subst hx
  obtain ⟨r, e, q⟩ := forL_ind enc (R := fun r => ∃ v st', fin st0 (sq (some r) k) = some (.ok v st') ∧ Pr v st') I hg (fun env st hi => hn env st hi) hc l env st h
  rw [e]
  exact q
theorem for_fin {τ : Type} (enc : τ → PV) {g : Sto → Prop} [DecidablePred g] {f : PV → Env → Sto → SM} {k : Env → Sto → SM} {st0 : Sto} {X : Mo PV} {xs : List PV} (I : List τ → Env → Sto → Prop) (l : List τ) (hx : xs = l.map enc) {env : Env} {st : Sto} (h : I l env st)
    (hg : ∀ l env st, I l env st → g st) (hn : ∀ env st, I [] env st → fin st0 (k env st) = X)
    (hc : ∀ v l env st, I (v :: l) env st → ∃ r, f (enc v) env st = some r ∧ rnd (I l) (fun r => fin st0 (sq (some r) k) = X) r) :
    fin st0 (sq (forL g f xs env st) k) = X := by
  subst hx
  obtain ⟨r, e, q⟩ := forL_ind enc (R := fun r => fin st0 (sq (some r) k) = X) I hg (fun env st hi => hn env st hi) hc l env st h
  rw [e]
  exact q
/-- a loop that ends in one known way -/
theorem forL_eq {τ : Type} (enc : τ → PV) {g : Sto → Prop} [DecidablePred g] {f : PV → Env → Sto → SM} {r : SRe} (I : List τ → Env → Sto → Prop)
    (hg : ∀ l env st, I l env st → g st) (hn : ∀ env st, I [] env st → SRe.ok .nx env st = r)
    (hc : ∀ v l env st, I (v :: l) env st → ∃ r', f (enc v) env st = some r' ∧ rnd (I l) (· = r) r') (l : List τ) (env : Env) (st : Sto) (h : I l env st) : forL g f (l.map enc) env st = some r := by
  obtain ⟨r', e, q⟩ := forL_ind enc (R := (· = r)) I hg hn hc l env st h
  rw [e, q]
/-- a list comprehension -/
theorem lcL_map {τ : Type} (enc : τ → PV) {g : Sto → Prop} [DecidablePred g] {f : PV → Sto → Mo (Option PV)} (out : τ → PV) {st : Sto} (hg : g st) : ∀ (l : List τ), (∀ t ∈ l, f (enc t) st = some (.ok (some (out t)) st)) → lcL g f (l.map enc) st = some (.ok (l.map out) st)
  | [], _ => by simp only [List.map_nil, lcL]; rw [if_pos hg]
  | t :: l, h => by
    simp only [List.map_cons, lcL]
    rw [if_pos hg, h t (by simp)]
    simp only []
    rw [lcL_map enc out hg l fun u m => h u (by simp [m])]
    rfl
theorem lcL_filt {τ : Type} (enc : τ → PV) {g : Sto → Prop} [DecidablePred g] {f : PV → Sto → Mo (Option PV)} (c : τ → Bool) (out : τ → PV) {st : Sto} (hg : g st) : ∀ (l : List τ), (∀ t ∈ l, f (enc t) st = some (.ok (if c t = true then some (out t) else none) st)) → lcL g f (l.map enc) st = some (.ok ((l.filter c).map out) st)
  | [], _ => by simp only [List.map_nil, lcL]; rw [if_pos hg]; rfl
  | t :: l, h => by
    simp only [List.map_cons, lcL]
    rw [if_pos hg, h t (by simp)]
    simp only []
    rw [lcL_filt enc c out hg l fun u m => h u (by simp [m])]
    cases e : c t with
    | true => simp [e]
    | false => simp [e]
/-- one whose rounds change the store -/
theorem lcL_ind {τ : Type} (enc : τ → PV) {g : Sto → Prop} [DecidablePred g] {f : PV → Sto → Mo (Option PV)} (I : Sto → Prop) (P : PV → Prop) (hg : ∀ st, I st → g st) : ∀ (l : List τ), (∀ t ∈ l, ∀ st, I st → ∃ x st', f (enc t) st = some (.ok (some x) st') ∧ P x ∧ I st') → ∀ st, I st → ∃ xs st', lcL g f (l.map enc) st = some (.ok xs st') ∧ xs.length = l.length ∧ (∀ x ∈ xs, P x) ∧ I st'
  | [], _, st, h => ⟨[], st, by simp only [List.map_nil, lcL]; rw [if_pos (hg _ h)], rfl, by simp, h⟩
  | t :: l, hf, st, h => by
    obtain ⟨x, st1, e1, p1, h1⟩ := hf t (by simp) st h
    obtain ⟨xs, st2, e2, l2, p2, h2⟩ := lcL_ind enc I P hg l (fun u m => hf u (by simp [m])) st1 h1
    refine ⟨x :: xs, st2, ?_, by simp [l2], ?_, h2⟩
    · simp only [List.map_cons, lcL]
      rw [if_pos (hg _ h), e1]
      simp only []
      rw [e2]
      rfl
    · intro y hy
      rcases List.mem_cons.mp hy with rfl | m
      · exact p1
      · exact p2 y m
theorem lc_finE {τ : Type} (enc : τ → PV) {g : Sto → Prop} [DecidablePred g] {f : PV → Sto → Mo (Option PV)} {k : List PV → Sto → SM} {st0 : Sto} {env : Env} {Pr : PV → Sto → Prop} {xs : List PV} (I : Sto → Prop) (P : PV → Prop) (l : List τ) (hx : xs = l.map enc) {st : Sto} (h : I st) (hg : ∀ st, I st → g st)
    (hf : ∀ t ∈ l, ∀ st, I st → ∃ x st', f (enc t) st = some (.ok (some x) st') ∧ P x ∧ I st')
    (hk : ∀ xs st, xs.length = l.length → (∀ x ∈ xs, P x) → I st → ∃ v st', fin st0 (k xs st) = some (.ok v st') ∧ Pr v st') :
    ∃ v st', fin st0 (stm env (lcL g f xs st) k) = some (.ok v st') ∧ Pr v st' := by
  subst hx
  obtain ⟨xs, st', e, hl, hp, hi⟩ := lcL_ind enc I P hg l hf st h
  rw [e]
  exact hk xs st' hl hp hi
/-- a loop within what ends somehow -/
theorem for_Q {τ : Type} (enc : τ → PV) {g : Sto → Prop} [DecidablePred g] {f : PV → Env → Sto → SM} {k : Env → Sto → SM} {Q0 : SRe → Prop} {xs : List PV} (I : List τ → Env → Sto → Prop) (l : List τ) (hx : xs = l.map enc) {env : Env} {st : Sto} (h : I l env st)
    (hg : ∀ l env st, I l env st → g st) (hn : ∀ env st, I [] env st → ∃ r, k env st = some r ∧ Q0 r)
    (hc : ∀ v l env st, I (v :: l) env st → ∀ Q : SRe → Prop, (∀ e s, I l e s → Q (.ok .nx e s)) → (∀ v e s, Q0 (.ok (.rt v) e s) → Q (.ok (.rt v) e s)) → ∃ r, f (enc v) env st = some r ∧ Q r) :
    ∃ r, sq (forL g f xs env st) k = some r ∧ Q0 r := by
  subst hx
  obtain ⟨r, e, q⟩ := forL_ind enc (R := fun r => ∃ r', sq (some r) k = some r' ∧ Q0 r') I hg (fun env st hi => hn env st hi) (fun v l env st hi => hc v l env st hi (rnd (I l) fun r => ∃ r', sq (some r) k = some r' ∧ Q0 r') (fun e s h => h) (fun v e s h => ⟨_, rfl, h⟩)) l env st h
  rw [e]
  exact q
/-- a loop at an end -/
theorem for_R {τ : Type} (enc : τ → PV) {g : Sto → Prop} [DecidablePred g] {f : PV → Env → Sto → SM} {Q0 : SRe → Prop} {xs : List PV} (I : List τ → Env → Sto → Prop) (l : List τ) (hx : xs = l.map enc) {env : Env} {st : Sto} (h : I l env st)
    (hg : ∀ l env st, I l env st → g st) (hn : ∀ env st, I [] env st → Q0 (.ok .nx env st))
    (hc : ∀ v l env st, I (v :: l) env st → ∀ Q : SRe → Prop, (∀ e s, I l e s → Q (.ok .nx e s)) → (∀ v e s, Q0 (.ok (.rt v) e s) → Q (.ok (.rt v) e s)) → ∃ r, f (enc v) env st = some r ∧ Q r) :
    ∃ r, forL g f xs env st = some r ∧ Q0 r := by
  subst hx
  exact forL_ind enc (R := Q0) I hg (fun env st hi => hn env st hi) (fun v l env st hi => hc v l env st hi (rnd (I l) Q0) (fun e s h => h) (fun v e s h => h)) l env st h
theorem lc_Q {τ : Type} (enc : τ → PV) {g : Sto → Prop} [DecidablePred g] {f : PV → Sto → Mo (Option PV)} {k : List PV → Sto → SM} {env : Env} {Q0 : SRe → Prop} {xs : List PV} (I : Sto → Prop) (P : PV → Prop) (l : List τ) (hx : xs = l.map enc) {st : Sto} (h : I st) (hg : ∀ st, I st → g st)
    (hf : ∀ t ∈ l, ∀ st, I st → ∃ x st', f (enc t) st = some (.ok (some x) st') ∧ P x ∧ I st')
    (hk : ∀ xs st, xs.length = l.length → (∀ x ∈ xs, P x) → I st → ∃ r, k xs st = some r ∧ Q0 r) :
    ∃ r, stm env (lcL g f xs st) k = some r ∧ Q0 r := by
  subst hx
  obtain ⟨xs, st', e, hl, hp, hi⟩ := lcL_ind enc I P hg l hf st h
  rw [e]
  exact hk xs st' hl hp hi
/-- a def that ends with a value -/
def FinE (st0 : Sto) (Pr : PV → Sto → Prop) (r : SRe) : Prop := ∃ v st', fin st0 (some r) = some (.ok v st') ∧ Pr v st'
theorem finE_of {st0 : Sto} {Pr : PV → Sto → Prop} {X : SM} (h : ∃ r, X = some r ∧ FinE st0 Pr r) : ∃ v st', fin st0 X = some (.ok v st') ∧ Pr v st' := by
  obtain ⟨r, e, q⟩ := h
  rw [e]
  exact q
def FinX (st0 : Sto) (Y : Mo PV) (r : SRe) : Prop := fin st0 (some r) = Y
theorem finX_of {st0 : Sto} {Y : Mo PV} {X : SM} (h : ∃ r, X = some r ∧ FinX st0 Y r) : fin st0 X = Y := by
  obtain ⟨r, e, q⟩ := h
  rw [e]
  exact q
theorem finX_E {st ext : Sto} {v : PV} {env : Env} (h : PV.pu v = true) : FinX st (some (.ok v st)) (.ok (.rt v) env (st ++ ext)) := fin_rtE h
theorem finX_S {st : Sto} {v : PV} {env : Env} : FinX st (some (.ok v st)) (.ok (.rt v) env st) := fin_rt
theorem finE_E {st ext : Sto} {v : PV} {env : Env} {Pr : PV → Sto → Prop} (h : PV.pu v = true) (p : Pr v st) : FinE st Pr (.ok (.rt v) env (st ++ ext)) := ⟨_, _, fin_rtE h, p⟩
theorem finE_S {st : Sto} {v : PV} {env : Env} {Pr : PV → Sto → Prop} (p : Pr v st) : FinE st Pr (.ok (.rt v) env st) := ⟨_, _, fin_rt, p⟩
theorem finE_P {st st' ext : Sto} {v : PV} {env : Env} {Pr : PV → Sto → Prop} (h : PV.pu v = true) (hl : st'.length = st.length) (hp : StP st') (p : Pr v st') : FinE st Pr (.ok (.rt v) env (st' ++ ext)) := ⟨_, _, fin_rtP h hl hp, p⟩
theorem finE_P0 {st st' : Sto} {v : PV} {env : Env} {Pr : PV → Sto → Prop} (hl : st'.length = st.length) (p : Pr v st') : FinE st Pr (.ok (.rt v) env st') := by
  refine ⟨v, st', ?_, p⟩
  simp only [fin]
  split
  · rw [← hl, List.take_length]
  · rfl
theorem fin_nxL {st st' : Sto} {env : Env} (hl : st'.length = st.length) : fin st (some (.ok .nx env st')) = some (.ok .non st') := by
  simp only [fin]
  split
  · rw [← hl, List.take_length]
  · rfl
/-! while -/
theorem whN_more {c : Env → Sto → Mo Bool} {b : Env → Sto → SM} : ∀ (n : Nat) (env : Env) (st : Sto) (r : SRe), whN c b n env st = some r → whN c b (n + 1) env st = some r
  | 0, _, _, _, h => by cases h
  | n + 1, env, st, r, h => by
    unfold whN at h ⊢
    cases e : c env st with
    | none => rw [e] at h; cases h
    | some x =>
      rw [e] at h
      cases x with
      | ex => exact h
      | ok t st1 =>
        cases t with
        | false => exact h
        | true =>
          simp only at h ⊢
          cases e2 : b env st1 with
          | none => rw [e2] at h; cases h
          | some y =>
            rw [e2] at h
            cases y with
            | ex => exact h
            | ok fl env2 st2 =>
              cases fl with
              | nx => exact whN_more n _ _ _ h
              | ct => exact whN_more n _ _ _ h
              | bk => exact h
              | rt v => exact h
theorem whN_le {c : Env → Sto → Mo Bool} {b : Env → Sto → SM} {n m : Nat} (hm : n ≤ m) {env : Env} {st : Sto} {r : SRe} (h : whN c b n env st = some r) : whN c b m env st = some r := by
  induction hm with
  | refl => exact h
  | step _ ih => exact whN_more _ _ _ _ ih
theorem whL_of {c : Env → Sto → Mo Bool} {b : Env → Sto → SM} {n : Nat} {env : Env} {st : Sto} {r : SRe} (h : whN c b n env st = some r) : whL c b env st = some r := by
  unfold whL
  have ex : ∃ r : SRe, ∃ n, whN c b n env st = some r := ⟨r, n, h⟩
  rw [dif_pos ex]
  obtain ⟨m, hm⟩ := ex.choose_spec
  have a := whN_le (Nat.le_max_left n m) h
  have b := whN_le (Nat.le_max_right n m) hm
  rw [a] at b
  exact b.symm
/-! ### lists of the store -/
@[simp] theorem set_end1 (st : Sto) (c d : Cell) : (st ++ [c]).set st.length d = st ++ [d] := by
  induction st with
  | nil => rfl
  | cons x st ih => simp [ih]
theorem get_end (st : Sto) (c : Cell) (ext : Sto) : (st ++ c :: ext)[st.length]? = some c := by simp
theorem set_end (st : Sto) (c d : Cell) (ext : Sto) : (st ++ c :: ext).set st.length d = st ++ d :: ext := by
  induction st with
  | nil => rfl
  | cons x st ih => simp [ih]
/-! ### subscripts -/
theorem ixN_nat {n i : Nat} (h : i < n) : L2.ixN n (i : Int) = some i := by
  unfold L2.ixN
  rw [if_pos (by omega), if_pos (by omega)]
  simp
theorem atP_nat {xs : List PV} {i : Nat} {x : PV} (h : xs[i]? = some x) : atP xs (i : Int) = some x := by
  unfold atP
  rw [ixN_nat (List.getElem?_eq_some_iff.mp h).1]
  exact h
theorem atP_int {xs : List PV} {z : Int} {x : PV} (h0 : 0 ≤ z) (h : xs[z.toNat]? = some x) : atP xs z = some x := by
  have := atP_nat h
  rwa [Int.toNat_of_nonneg h0] at this
theorem atP_last {xs : List PV} {x : PV} (h : xs.getLast? = some x) : atP xs (-1) = some x := by
  have hl : 0 < xs.length := by
    cases xs with
    | nil => cases h
    | cons => simp
  unfold atP L2.ixN
  rw [if_neg (by omega), if_pos (by omega)]
  simp only [Option.bind_some]
  rw [List.getLast?_eq_getElem?] at h
  rw [← h]
  congr 1
  omega
end K87
end
section
set_option Elab.async false
set_option linter.all false
set_option maxRecDepth 100000
set_option maxHeartbeats 4000000
/-! W2: the evaluator's equations as rules. -/
namespace K87
open PySem hiding Env exec
open BR KM
def negP : PV → Option PV
  | .int i => some (.int (-i))
  | _ => none
def methP (T : Tab) (Φ : Phi) (m : Nat) (x : PV) (o : Option (Nat × List Nat × List PV)) (es : Mo (List PV)) : Mo PV := match o with
    | some (c, fs, _) => if m ∈ fs then none else match T.mth c m with
      | some f => bnd es fun vs st => Φ f (x :: vs) st
      | none => none
    | none => none
def callvP (Φ : Phi) (x : Option PV) (m : Mo (List PV)) : Mo PV := match x with
  | some (.fn f) => bnd m fun vs st => Φ f vs st
  | _ => none
@[simp] theorem callvP_fn (Φ : Phi) (f : Nat) (m : Mo (List PV)) : callvP Φ (some (.fn f)) m = bnd m fun vs st => Φ f vs st := by unfold callvP; rfl
@[simp] theorem negP_int (i : Int) : negP (.int i) = some (.int (-i)) := rfl
def cellP (x : PV) (st : Sto) : Mo PV := match x with
  | .lst xs => some (.ok (.ref st.length) (st ++ [.lst xs]))
  | .dct ks vs => some (.ok (.ref st.length) (st ++ [.dct ks vs]))
  | _ => none
@[simp] theorem cellP_lst (xs : List PV) (st : Sto) : cellP (.lst xs) st = some (.ok (.ref st.length) (st ++ [.lst xs])) := rfl
@[simp] theorem cellP_dct (ks : List L2.Key) (xs : List PV) (st : Sto) : cellP (.dct ks xs) st = some (.ok (.ref st.length) (st ++ [.dct ks xs])) := rfl
def lifS (o : Option BR.Env) (st : Sto) : SM := match o with
  | some env => some (.ok .nx env st)
  | none => none
@[simp] theorem lifS_some (env : BR.Env) (st : Sto) : lifS (some env) st = some (.ok .nx env st) := by unfold lifS; rfl
section
variable {T : Tab} {Φ : Phi} {env : BR.Env} {st : Sto}
@[simp] theorem x_var (i : Nat) : ev T Φ (.var i) env st = lif (look env i) st := by simp only [ev]
@[simp] theorem x_int (n : Int) : ev T Φ (.int n) env st = some (.ok (.int n) st) := by simp only [ev]
@[simp] theorem x_bl (n : Bool) : ev T Φ (.bl n) env st = some (.ok (.bl n) st) := by simp only [ev]
@[simp] theorem x_str (n : String) : ev T Φ (.str n) env st = some (.ok (.str (Str.ofString n)) st) := by simp only [ev]
@[simp] theorem x_non : ev T Φ .non env st = some (.ok .non st) := by simp only [ev]
@[simp] theorem x_glb (n : Nat) : ev T Φ (.glb n) env st = lif (T.glb n) st := by simp only [ev]
@[simp] theorem x_bin (op : Op2) (a b : E) : ev T Φ (.bin op a b) env st = bnd (ev T Φ a env st) fun x st => bnd (ev T Φ b env st) fun y st => lif (bin2 op x y) st := by simp only [ev]
@[simp] theorem x_neg (a : E) : ev T Φ (.neg a) env st = bnd (ev T Φ a env st) fun x st => lif (negP x) st := by
  simp only [ev]
  congr
  funext x st
  cases x <;> rfl
@[simp] theorem x_cmp (op : Cp) (a b : E) : ev T Φ (.cmp op a b) env st = bnd (ev T Φ a env st) fun x st => bnd (ev T Φ b env st) fun y st => bnd (lif (cmpo st op x y) st) fun r st => some (.ok (.bl r) st) := by simp only [ev]
@[simp] theorem x_chain (o1 o2 : Cp) (a b c : E) : ev T Φ (.chain o1 o2 a b c) env st = bnd (ev T Φ a env st) fun x st => bnd (ev T Φ b env st) fun y st => bnd (lif (cmpo st o1 x y) st) fun r st => bif r then (bnd (ev T Φ c env st) fun z st => bnd (lif (cmpo st o2 y z) st) fun r st => some (.ok (.bl r) st)) else some (.ok (.bl false) st) := by
  simp only [ev]
  rfl
@[simp] theorem x_and (a b : E) : ev T Φ (.and a b) env st = bnd (ev T Φ a env st) fun x st => bnd (lif (tru st x) st) fun r st => bif r then ev T Φ b env st else some (.ok x st) := by
  simp only [ev]
  rfl
@[simp] theorem x_or (a b : E) : ev T Φ (.or a b) env st = bnd (ev T Φ a env st) fun x st => bnd (lif (tru st x) st) fun r st => bif r then some (.ok x st) else ev T Φ b env st := by
  simp only [ev]
  rfl
@[simp] theorem x_one (a : E) : ev T Φ (.one a) env st = ev T Φ a env st := by simp only [ev]
@[simp] theorem x_not (a : E) : ev T Φ (.not a) env st = bnd (ev T Φ a env st) fun x st => bnd (lif (tru st x) st) fun r st => some (.ok (.bl (!r)) st) := by simp only [ev]
@[simp] theorem x_ite (t a b : E) : ev T Φ (.ite t a b) env st = bnd (bnd (ev T Φ t env st) fun x st => lif (tru st x) st) fun r st => bif r then ev T Φ a env st else ev T Φ b env st := by
  simp only [ev]
  rfl
@[simp] theorem x_tup (es : Es) : ev T Φ (.tup es) env st = bnd (evs T Φ es env st) fun xs st => if xs.length ≤ sizeLine then some (.ok (.tup xs) st) else none := by simp only [ev]
@[simp] theorem x_lst (es : Es) : ev T Φ (.lst es) env st = bnd (evs T Φ es env st) fun xs st => if xs.length ≤ sizeLine then some (.ok (.lst xs) st) else none := by simp only [ev]
@[simp] theorem x_newd : ev T Φ .newd env st = some (.ok (.dct [] []) st) := by simp only [ev]
@[simp] theorem x_idx (a b : E) : ev T Φ (.idx a b) env st = bnd (ev T Φ a env st) fun x st => bnd (ev T Φ b env st) fun y st => lif (idxP st x y) st := by simp only [ev]
@[simp] theorem x_slB (a lo hi : E) : ev T Φ (.slB a lo hi) env st = bnd (ev T Φ a env st) fun x st => bnd (ev T Φ lo env st) fun l st => bnd (lif (intO l) st) fun i st => bnd (ev T Φ hi env st) fun h st => bnd (lif (intO h) st) fun j st => lif (sliP st x (some i) (some j)) st := by simp only [ev]
@[simp] theorem x_slL (a lo : E) : ev T Φ (.slL a lo) env st = bnd (ev T Φ a env st) fun x st => bnd (ev T Φ lo env st) fun l st => bnd (lif (intO l) st) fun i st => lif (sliP st x (some i) none) st := by simp only [ev]
@[simp] theorem x_slH (a hi : E) : ev T Φ (.slH a hi) env st = bnd (ev T Φ a env st) fun x st => bnd (ev T Φ hi env st) fun h st => bnd (lif (intO h) st) fun j st => lif (sliP st x none (some j)) st := by simp only [ev]
@[simp] theorem x_fld (a : E) (f : Nat) : ev T Φ (.fld a f) env st = bnd (ev T Φ a env st) fun x st => lif ((objOf st x).bind fun o => if T.att o.1 f = true then fldP f o.2.1 o.2.2 else none) st := by simp only [ev]
@[simp] theorem x_call (f : Nat) (es : Es) : ev T Φ (.call f es) env st = bnd (evs T Φ es env st) fun vs st => Φ f vs st := by simp only [ev]
@[simp] theorem x_callv (i : Nat) (es : Es) : ev T Φ (.callv i es) env st = callvP Φ (look env i) (evs T Φ es env st) := by
  simp only [ev]
  rfl
@[simp] theorem x_meth (a : E) (m : Nat) (es : Es) : ev T Φ (.meth a m es) env st = bnd (ev T Φ a env st) fun x st => methP T Φ m x (objOf st x) (evs T Φ es env st) := by
  simp only [ev]
  rfl
@[simp] theorem x_blt (b : Blt) (es : Es) : ev T Φ (.blt b es) env st = bnd (evs T Φ es env st) fun vs st => lif (bltf st b vs) st := by simp only [ev]
@[simp] theorem x_bm (a : E) (m : Bm) (e : E) : ev T Φ (.bm a m e) env st = bnd (ev T Φ a env st) fun x st => if bmR m x = true then bnd (ev T Φ e env st) fun y st => lif (bmf st m x y) st else none := by simp only [ev]
@[simp] theorem x_isi (a : E) (t : Ty) : ev T Φ (.isi a t) env st = bnd (ev T Φ a env st) fun x st => bnd (lif (isiP x t) st) fun b st => some (.ok (.bl b) st) := by simp only [ev]
@[simp] theorem x_cell (e : E) : ev T Φ (.cell e) env st = bnd (ev T Φ e env st) fun x st => cellP x st := by
  simp only [ev]
  congr
theorem x_lc (it : It) (tg : Tg) (elt : E) (own : List (Str × Nat)) : ev T Φ (.lc it tg elt own) env st = bnd (evi T Φ it env st) fun p st =>
    bnd (lcL (gok p.2) (fun v st => match asg tg v (wipeE env (own.map (·.2))) with
      | some env' => bnd (ev T Φ elt env' st) fun x st => some (.ok (some x) st)
      | none => none) p.1 st) fun xs st => some (.ok (.lst xs) st) := by
  simp only [ev] <;> rfl
@[simp] theorem xs_nil : evs T Φ .nil env st = some (.ok [] st) := by simp only [evs]
@[simp] theorem xs_cons (e : E) (es : Es) : evs T Φ (.cons e es) env st = bnd (ev T Φ e env st) fun x st => bnd (evs T Φ es env st) fun xs st => some (.ok (x :: xs) st) := by simp only [evs]
@[simp] theorem xi_seq (e : E) : evi T Φ (.seq e) env st = bnd (ev T Φ e env st) fun x st => lif (walked st x) st := by simp only [evi]
@[simp] theorem xt (c : E) : evt T Φ c env st = bnd (ev T Φ c env st) fun x st => lif (tru st x) st := rfl
@[simp] theorem q_seq (a b : S) : exec T Φ (.seq a b) env st = sq (exec T Φ a env st) fun env st => exec T Φ b env st := by simp only [exec]
@[simp] theorem q_skip : exec T Φ .skip env st = some (.ok .nx env st) := by simp only [exec]
@[simp] theorem q_set (t : Tg) (e : E) : exec T Φ (.set t e) env st = stm env (ev T Φ e env st) fun v st => lifS (asg t v env) st := by
  simp only [exec]
  rfl
@[simp] theorem q_wipe (is : List Nat) : exec T Φ (.wipe is) env st = some (.ok .nx (wipeE env is) st) := by simp only [exec]
@[simp] theorem q_ex (e : E) : exec T Φ (.ex e) env st = stm env (ev T Φ e env st) fun _ st => some (.ok .nx env st) := by simp only [exec]
@[simp] theorem q_ret (e : E) : exec T Φ (.ret e) env st = stm env (ev T Φ e env st) fun v st => some (.ok (.rt v) env st) := by simp only [exec]
@[simp] theorem q_retn : exec T Φ .retn env st = some (.ok (.rt .non) env st) := by simp only [exec]
@[simp] theorem q_ifs (c : E) (a b : S) : exec T Φ (.ifs c a b) env st = stm env (evt T Φ c env st) fun r st => bif r then exec T Φ a env st else exec T Φ b env st := by
  simp only [exec]
  rfl
theorem q_fors (t : Tg) (it : It) (b : S) : exec T Φ (.fors t it b) env st = stm env (evi T Φ it env st) fun p st => forL (gok p.2) (fun v env st => match asg t v env with
    | some env => exec T Φ b env st
    | none => none) p.1 env st := by
  simp only [exec] <;> rfl
theorem q_whil (c : E) (b : S) : exec T Φ (.whil c b) env st = whL (evt T Φ c) (exec T Φ b) env st := by simp only [exec]
@[simp] theorem q_brk : exec T Φ .brk env st = some (.ok .bk env st) := by simp only [exec]
@[simp] theorem q_cont : exec T Φ .cont env st = some (.ok .ct env st) := by simp only [exec]
@[simp] theorem q_app (l e : E) : exec T Φ (.app l e) env st = stm env (ev T Φ l env st) fun x st => if isCL st x = true then stm env (ev T Φ e env st) fun v st => appP env st x v else none := by simp only [exec]
@[simp] theorem q_ext (l e : E) : exec T Φ (.ext l e) env st = stm env (ev T Φ l env st) fun x st => if isCL st x = true then stm env (ev T Φ e env st) fun v st => extP env st x v else none := by simp only [exec]
@[simp] theorem q_setix (o i e : E) : exec T Φ (.setix o i e) env st = stm env (ev T Φ e env st) fun v st => stm env (ev T Φ o env st) fun x st => stm env (ev T Φ i env st) fun y st => sixP env st x y v := by simp only [exec]
@[simp] theorem q_setfl (o : E) (f : Nat) (e : E) : exec T Φ (.setfl o f e) env st = stm env (ev T Φ e env st) fun v st => stm env (ev T Φ o env st) fun x st => sflP T.att f env st x v := by simp only [exec]
@[simp] theorem q_rai (c : Nat) (es : Es) : exec T Φ (.rai c es) env st = stm env (evs T Φ es env st) fun vs st => some (.ex c vs env st) := by simp only [exec]
theorem q_tryr (b : S) (c i f j : Nat) : exec T Φ (.tryr b c i f j) env st = tryP T.xf c f j i (exec T Φ b env st) := by simp only [exec]
end
@[simp] theorem stm_ok {α : Type} (env : BR.Env) (a : α) (st : Sto) (k : α → Sto → SM) : stm env (some (.ok a st)) k = k a st := by unfold stm; rfl
@[simp] theorem stm_none {α : Type} (env : BR.Env) (k : α → Sto → SM) : stm env none k = none := by unfold stm; rfl
@[simp] theorem stm_ex {α : Type} (env : BR.Env) (c : Nat) (vs : List PV) (st : Sto) (k : α → Sto → SM) : stm env (some (.ex c vs st)) k = some (.ex c vs env st) := by unfold stm; rfl
@[simp] theorem sq_nx (env : BR.Env) (st : Sto) (k : BR.Env → Sto → SM) : sq (some (.ok .nx env st)) k = k env st := by unfold sq; rfl
@[simp] theorem sq_rt (v : PV) (env : BR.Env) (st : Sto) (k : BR.Env → Sto → SM) : sq (some (.ok (.rt v) env st)) k = some (.ok (.rt v) env st) := by unfold sq; rfl
@[simp] theorem sq_bk (env : BR.Env) (st : Sto) (k : BR.Env → Sto → SM) : sq (some (.ok .bk env st)) k = some (.ok .bk env st) := by unfold sq; rfl
@[simp] theorem sq_ct (env : BR.Env) (st : Sto) (k : BR.Env → Sto → SM) : sq (some (.ok .ct env st)) k = some (.ok .ct env st) := by unfold sq; rfl
@[simp] theorem sq_ex (c : Nat) (vs : List PV) (env : BR.Env) (st : Sto) (k : BR.Env → Sto → SM) : sq (some (.ex c vs env st)) k = some (.ex c vs env st) := by unfold sq; rfl
theorem bnd_bnd {α β γ : Type} (m : Mo α) (f : α → Sto → Mo β) (g : β → Sto → Mo γ) : bnd (bnd m f) g = bnd m fun a st => bnd (f a st) g := by
  cases m with
  | none => rfl
  | some r => cases r <;> rfl
theorem stm_bnd {α β : Type} (env : BR.Env) (m : Mo α) (f : α → Sto → Mo β) (g : β → Sto → SM) : stm env (bnd m f) g = stm env m fun a st => stm env (f a st) g := by
  cases m with
  | none => rfl
  | some r => cases r <;> rfl
@[simp] theorem sq_none (k : BR.Env → Sto → SM) : sq none k = none := by unfold sq; rfl
theorem sq_stm {α : Type} (env : BR.Env) (m : Mo α) (f : α → Sto → SM) (g : BR.Env → Sto → SM) : sq (stm env m f) g = stm env m fun a st => sq (f a st) g := by
  cases m with
  | none => rfl
  | some r => cases r <;> rfl
theorem sq_sq (m : SM) (f g : BR.Env → Sto → SM) : sq (sq m f) g = sq m fun env st => sq (f env st) g := by
  cases m with
  | none => rfl
  | some r =>
    cases r with
    | ex => rfl
    | ok fl env st => cases fl <;> rfl
/-- a branch of a statement -/
@[simp] theorem sq_bif (c : Bool) (a b : SM) (k : BR.Env → Sto → SM) : sq (bif c then a else b) k = bif c then sq a k else sq b k := by cases c <;> rfl
@[simp] theorem bnd_bif {α β : Type} (c : Bool) (a b : Mo α) (k : α → Sto → Mo β) : bnd (bif c then a else b) k = bif c then bnd a k else bnd b k := by cases c <;> rfl
@[simp] theorem stm_bif {α : Type} (env : BR.Env) (c : Bool) (a b : Mo α) (k : α → Sto → SM) : stm env (bif c then a else b) k = bif c then stm env a k else stm env b k := by cases c <;> rfl
@[simp] theorem fin_bif (st : Sto) (c : Bool) (a b : SM) : fin st (bif c then a else b) = bif c then fin st a else fin st b := by cases c <;> rfl
@[simp] theorem bif_bl (c a b : Bool) (st : Sto) : (bif c then some (Re.ok (PV.bl a) st) else some (Re.ok (PV.bl b) st)) = some (Re.ok (PV.bl (bif c then a else b)) st) := by cases c <;> rfl
@[simp] theorem bif_same (c b : Bool) : (bif c then c else b) = (c || b) := by cases c <;> rfl
@[simp] theorem bif_same2 (c b : Bool) : (bif c then b else c) = (c && b) := by cases c <;> rfl
@[simp] theorem look_0 (x : Option PV) (r : BR.Env) : look (x :: r) 0 = x := rfl
@[simp] theorem look_s (x : Option PV) (r : BR.Env) (i : Nat) : look (x :: r) (i + 1) = look r i := rfl
@[simp] theorem asg_nm (i : Nat) (v : PV) (env : BR.Env) : asg (.nm i) v env = some (env.set i (some v)) := by simp only [asg]
@[simp] theorem asg_tup (ts : Tgs) (xs : List PV) (env : BR.Env) : asg (.tup ts) (.tup xs) env = asgs ts xs env := by simp only [asg]
@[simp] theorem asgs_nil (env : BR.Env) : asgs .nil [] env = some env := by simp only [asgs]
@[simp] theorem asgs_cons (t : Tg) (ts : Tgs) (v : PV) (vs : List PV) (env : BR.Env) : asgs (.cons t ts) (v :: vs) env = (asg t v env).bind fun env => asgs ts vs env := by simp only [asgs]
@[simp] theorem wipe_nil (env : BR.Env) : wipeE env [] = env := rfl
@[simp] theorem wipe_cons (env : BR.Env) (i : Nat) (is : List Nat) : wipeE env (i :: is) = (wipeE env is).set i none := rfl
@[simp] theorem b_add (i j : Int) : bin2 .add (.int i) (.int j) = some (.int (i + j)) := by unfold bin2; rfl
@[simp] theorem b_sub (i j : Int) : bin2 .sub (.int i) (.int j) = some (.int (i - j)) := by unfold bin2; rfl
@[simp] theorem b_mul (i j : Int) : bin2 .mul (.int i) (.int j) = if smul i j then some (.int (i * j)) else none := by unfold bin2; rfl
@[simp] theorem b_fdiv (i j : Int) : bin2 .fdiv (.int i) (.int j) = if sdiv j then some (.int (i / j)) else none := by unfold bin2; rfl
@[simp] theorem b_mod (i j : Int) : bin2 .mod (.int i) (.int j) = if 0 < j then some (.int (i % j)) else none := by unfold bin2; rfl
@[simp] theorem c_lt (st : Sto) (i j : Int) : cmpo st .lt (.int i) (.int j) = some (decide (i < j)) := rfl
@[simp] theorem c_le (st : Sto) (i j : Int) : cmpo st .le (.int i) (.int j) = some (decide (i ≤ j)) := rfl
@[simp] theorem c_gt (st : Sto) (i j : Int) : cmpo st .gt (.int i) (.int j) = some (decide (j < i)) := rfl
@[simp] theorem c_ge (st : Sto) (i j : Int) : cmpo st .ge (.int i) (.int j) = some (decide (j ≤ i)) := rfl
def isNon : PV → Bool
  | .non => true
  | _ => false
@[simp] theorem isNon_non : isNon .non = true := rfl
@[simp] theorem isNon_tup (xs : List PV) : isNon (.tup xs) = false := rfl
@[simp] theorem isNon_int (n : Int) : isNon (.int n) = false := rfl
@[simp] theorem c_isN (st : Sto) (x y : PV) : cmpo st .isN x y = some (isNon x) := by cases x <;> rfl
@[simp] theorem c_notN (st : Sto) (x y : PV) : cmpo st .notN x y = some (!isNon x) := by cases x <;> rfl
@[simp] theorem c_eq (st : Sto) (x y : PV) : cmpo st .eq x y = peq x y := by cases x <;> cases y <;> rfl
@[simp] theorem c_ne (st : Sto) (x y : PV) : cmpo st .ne x y = (peq x y).map (!·) := by cases x <;> cases y <;> rfl
@[simp] theorem c_in (st : Sto) (x y : PV) : cmpo st .inn x y = inP st x y := by cases x <;> cases y <;> rfl
@[simp] theorem c_notin (st : Sto) (x y : PV) : cmpo st .notin x y = (inP st x y).map (!·) := by cases x <;> cases y <;> rfl
@[simp] theorem t_bl (st : Sto) (b : Bool) : tru st (.bl b) = some b := rfl
@[simp] theorem t_int (st : Sto) (b : Int) : tru st (.int b) = some (!decide (b = 0)) := rfl
@[simp] theorem t_non (st : Sto) : tru st .non = some false := rfl
@[simp] theorem p_int (i j : Int) : peq (.int i) (.int j) = some (decide (i = j)) := rfl
@[simp] theorem p_bl (i j : Bool) : peq (.bl i) (.bl j) = some (decide (i = j)) := by cases i <;> cases j <;> rfl
@[simp] theorem f_int (st : Sto) (i : Int) : bltf st .int [.int i] = some (.int i) := rfl
@[simp] theorem f_gcd (st : Sto) (i j : Int) : bltf st .gcd [.int i, .int j] = some (.int ((Nat.gcd i.natAbs j.natAbs : Nat) : Int)) := rfl
@[simp] theorem f_min (st : Sto) (i j : Int) : bltf st .min [.int i, .int j] = some (.int (if j < i then j else i)) := rfl
@[simp] theorem f_max (st : Sto) (i j : Int) : bltf st .max [.int i, .int j] = some (.int (if j > i then j else i)) := rfl
@[simp] theorem f_abs (st : Sto) (i : Int) : bltf st .abs [.int i] = some (.int (if i < 0 then -i else i)) := rfl
@[simp] theorem f_tuple (st : Sto) (xs : List PV) : bltf st .tuple [.lst xs] = some (.tup xs) := rfl
@[simp] theorem f_tuplei (st : Sto) (xs : List PV) : bltf st .tuplei [.lst xs] = some (.tpd xs) := rfl
@[simp] theorem pu_non : PV.pu .non = true := rfl
@[simp] theorem pu_bl (b : Bool) : PV.pu (.bl b) = true := rfl
@[simp] theorem pu_int (b : Int) : PV.pu (.int b) = true := rfl
@[simp] theorem pu_str (b : Str) : PV.pu (.str b) = true := rfl
@[simp] theorem pu_tup (xs : List PV) : PV.pu (.tup xs) = PV.pus xs := by simp only [PV.pu]
@[simp] theorem pu_tpd (xs : List PV) : PV.pu (.tpd xs) = PV.pus xs := by simp only [PV.pu]
@[simp] theorem pu_lst (xs : List PV) : PV.pu (.lst xs) = PV.pus xs := by simp only [PV.pu]
@[simp] theorem pu_arg (xs : List PV) : PV.pu (.arg xs) = PV.pus xs := by simp only [PV.pu]
@[simp] theorem pus_nil : PV.pus [] = true := rfl
@[simp] theorem pus_cons (x : PV) (xs : List PV) : PV.pus (x :: xs) = (PV.pu x && PV.pus xs) := by simp only [PV.pus]
theorem smul_of {i j : Int} (hi : i.natAbs < 2 ^ 300) (hj : j.natAbs < 2 ^ 300) : smul i j := by
  have l : ∀ n : Nat, n < 2 ^ 300 → n.log2 ≤ 300 := fun n h => by
    by_cases e : n = 0
    · subst e
      simp [Nat.log2_zero]
    · exact Nat.le_of_lt ((Nat.log2_lt e).mpr h)
  have h1 := l _ hi
  have h2 := l _ hj
  unfold smul
  omega
theorem sdiv_of {j : Int} (h : 0 < j) (hj : j.natAbs < 2 ^ 300) : sdiv j := by
  have : j.natAbs.log2 ≤ 300 := Nat.le_of_lt ((Nat.log2_lt (by omega)).mpr hj)
  exact ⟨h, by omega⟩
end K87
end
section
set_option Elab.async false
set_option linter.all false
set_option maxRecDepth 100000
set_option maxHeartbeats 4000000
/-! W3: moments. -/
namespace K87
open PySem hiding Env exec
open BR KM
def gg (z : Int) : Nat := Int.gcd z 3000
def nu (z : Int) : Int := z / (gg z : Int)
def de (z : Int) : Int := 3000 / (gg z : Int)
def mo (z : Int) : PV := .tup [.int (nu z), .int (de z)]
/-- not too far -/
def Z (z : Int) : Prop := -1000000000000 ≤ z ∧ z ≤ 1000000000000
theorem gg_pos (z : Int) : 0 < gg z := Int.gcd_pos_of_ne_zero_right _ (by decide)
theorem nu_eq (z : Int) : nu z * (gg z : Int) = z := Int.ediv_mul_cancel (Int.gcd_dvd_left ..)
theorem de_eq (z : Int) : de z * (gg z : Int) = 3000 := Int.ediv_mul_cancel (Int.gcd_dvd_right ..)
theorem de_pos (z : Int) : 0 < de z := by
  have h1 := de_eq z
  have h2 := gg_pos z
  apply Int.pos_of_mul_pos_left (b := (gg z : Int))
  · omega
  · omega
theorem de_le (z : Int) : de z ≤ 3000 := by
  have h1 := de_eq z
  have h2 := gg_pos z
  have h3 := de_pos z
  have : de z * 1 ≤ de z * (gg z : Int) := Int.mul_le_mul_of_nonneg_left (by omega) (by omega)
  omega
theorem nu_de (z : Int) : nu z * 3000 = z * de z := by
  have h1 := nu_eq z
  have h2 := de_eq z
  calc nu z * 3000 = nu z * (de z * (gg z : Int)) := by rw [h2]
    _ = (nu z * (gg z : Int)) * de z := by rw [Int.mul_comm (de z), Int.mul_assoc]
    _ = z * de z := by rw [h1]
theorem nu_cop (z : Int) : Int.gcd (nu z) (de z) = 1 := by
  unfold nu de gg
  exact Int.gcd_ediv_gcd_ediv_gcd (Int.gcd_pos_of_ne_zero_right _ (by decide))
theorem cop_dvd {a b c : Int} (h : a ∣ b * c) (g : Int.gcd a b = 1) : a ∣ c := by
  rw [← Int.natAbs_dvd_natAbs, Int.natAbs_mul] at h
  rw [← Int.natAbs_dvd_natAbs]
  exact Nat.Coprime.dvd_of_dvd_mul_left (by rw [Int.gcd_eq_natAbs_gcd_natAbs] at g; exact g) h
theorem low_of {n d z : Int} (hd : 0 < d) (h : n * 3000 = z * d) : n / (Int.gcd n d : Int) = nu z ∧ d / (Int.gcd n d : Int) = de z := by
  have g0 : 0 < Int.gcd n d := Int.gcd_pos_of_ne_zero_right _ (by omega)
  have e1 : n / (Int.gcd n d : Int) * (Int.gcd n d : Int) = n := Int.ediv_mul_cancel (Int.gcd_dvd_left ..)
  have e2 : d / (Int.gcd n d : Int) * (Int.gcd n d : Int) = d := Int.ediv_mul_cancel (Int.gcd_dvd_right ..)
  have c : Int.gcd (n / (Int.gcd n d : Int)) (d / (Int.gcd n d : Int)) = 1 := Int.gcd_ediv_gcd_ediv_gcd g0
  have hg : 0 < (Int.gcd n d : Int) := by omega
  clear g0
  generalize n / (Int.gcd n d : Int) = n' at *
  generalize d / (Int.gcd n d : Int) = d' at *
  generalize (Int.gcd n d : Int) = g at *
  have hgp : g ≠ 0 := by omega
  have k1 : n' * 3000 = z * d' := by
    have : (n' * 3000) * g = (z * d') * g := by
      rw [Int.mul_assoc, Int.mul_comm 3000, ← Int.mul_assoc, e1, h, Int.mul_assoc, e2]
    exact Int.eq_of_mul_eq_mul_right hgp this
  have k2 := nu_de z
  have k3 := nu_cop z
  have dp := de_pos z
  have hd' : 0 < d' := by
    have : 0 < d' * g := by omega
    exact Int.pos_of_mul_pos_left this hg
  have k4 : n' * de z = nu z * d' := by
    have : (n' * de z) * 3000 = (nu z * d') * 3000 := by
      calc (n' * de z) * 3000 = (n' * 3000) * de z := by rw [Int.mul_assoc, Int.mul_comm (de z), ← Int.mul_assoc]
        _ = (z * d') * de z := by rw [k1]
        _ = (z * de z) * d' := by rw [Int.mul_assoc, Int.mul_comm d', ← Int.mul_assoc]
        _ = (nu z * 3000) * d' := by rw [k2]
        _ = (nu z * d') * 3000 := by rw [Int.mul_assoc, Int.mul_comm 3000, ← Int.mul_assoc]
    exact Int.eq_of_mul_eq_mul_right (by decide) this
  have a1 : d' ∣ de z := by
    have : d' ∣ n' * de z := ⟨nu z, by rw [k4, Int.mul_comm]⟩
    exact cop_dvd this (by rw [Int.gcd_comm]; exact c)
  have a2 : de z ∣ d' := by
    have : de z ∣ nu z * d' := ⟨n', by rw [← k4, Int.mul_comm]⟩
    exact cop_dvd this (by rw [Int.gcd_comm]; exact k3)
  have e : d' = de z := Int.dvd_antisymm (by omega) (by omega) a1 a2
  refine ⟨?_, e⟩
  rw [e] at k4
  exact Int.eq_of_mul_eq_mul_right (by omega) k4
theorem cross (a b : Int) : (nu a * de b - nu b * de a) * 3000 = (a - b) * (de a * de b) := by
  have h1 := nu_de a
  have h2 := nu_de b
  have e1 : nu a * de b * 3000 = a * (de a * de b) := by
    calc nu a * de b * 3000 = nu a * 3000 * de b := by rw [Int.mul_assoc, Int.mul_comm (de b), ← Int.mul_assoc]
      _ = a * (de a * de b) := by rw [h1, Int.mul_assoc]
  have e2 : nu b * de a * 3000 = b * (de a * de b) := by
    calc nu b * de a * 3000 = nu b * 3000 * de a := by rw [Int.mul_assoc, Int.mul_comm (de a), ← Int.mul_assoc]
      _ = b * (de a * de b) := by rw [h2, Int.mul_assoc, Int.mul_comm (de b)]
  rw [Int.sub_mul, Int.sub_mul, e1, e2]
theorem dd_pos (a b : Int) : 0 < de a * de b := Int.mul_pos (de_pos a) (de_pos b)
theorem lt_iff (a b : Int) : nu a * de b < nu b * de a ↔ a < b := by
  have h := cross a b
  have p := dd_pos a b
  constructor
  · intro l
    have : (a - b) * (de a * de b) < 0 := by omega
    have := Int.neg_of_mul_neg_left this (by omega)
    omega
  · intro l
    have : (a - b) * (de a * de b) < 0 := Int.mul_neg_of_neg_of_pos (by omega) p
    omega
theorem sgn (a b : Int) : (nu a * de b - nu b * de a < 0 ↔ a < b) ∧ (0 < nu a * de b - nu b * de a ↔ b < a) := by
  have h1 := lt_iff a b
  have h2 := lt_iff b a
  omega
theorem nu_abs (z : Int) : (nu z).natAbs ≤ z.natAbs := by
  have h := congrArg Int.natAbs (nu_eq z)
  rw [Int.natAbs_mul] at h
  have g := gg_pos z
  have : (nu z).natAbs * 1 ≤ (nu z).natAbs * (gg z : Int).natAbs := Nat.mul_le_mul_left _ (by omega)
  omega
theorem nu_inj {a b : Int} (h1 : nu a = nu b) (h2 : de a = de b) : a = b := by
  have k1 := nu_de a
  have k2 := nu_de b
  rw [h1, h2] at k1
  have p := de_pos b
  have : a * de b = b * de b := by omega
  exact Int.eq_of_mul_eq_mul_right (by omega) this
theorem nu_sm {z : Int} (h : Z z) : (nu z).natAbs < 2 ^ 300 := by
  have := nu_abs z
  unfold Z at h
  omega
theorem de_sm (z : Int) : (de z).natAbs < 2 ^ 300 := by
  have h1 := de_le z
  have h2 := de_pos z
  omega
@[simp] theorem ix0 (st : Sto) (z : Int) : idxP st (mo z) (.int 0) = some (.int (nu z)) := rfl
@[simp] theorem ix1 (st : Sto) (z : Int) : idxP st (mo z) (.int 1) = some (.int (de z)) := rfl
theorem mulND {a b : Int} (h : Z a) : smul (nu a) (de b) := smul_of (nu_sm h) (de_sm b)
theorem mulDD {a b : Int} : smul (de a) (de b) := smul_of (de_sm a) (de_sm b)
theorem less_run (k : Nat) (a b : Int) (st : Sto) (ha : Z a) (hb : Z b) : runF tab (k + 1) f__law_less [mo a, mo b] st = some (.ok (.bl (decide (a < b))) st) := by
  rw [run_eq (d := d__law_less) rfl rfl]
  simp [d__law_less, b__law_less, mulND ha, mulND hb, lt_iff]
end K87
end
section
set_option Elab.async false
set_option linter.all false
set_option maxRecDepth 100000
set_option maxHeartbeats 4000000
/-! W4: moments, walked. -/
namespace K87
open PySem hiding Env exec
open BR KM
theorem sz2 : (2 : Nat) ≤ sizeLine := by rw [sizeLine_eq]; decide
@[simp] theorem szn (n : Nat) (h : n ≤ 1000) : n ≤ sizeLine := by rw [sizeLine_eq]; omega
theorem pars2 {d : Fd} (h1 : d.star = false) (h2 : d.np = 2) (h3 : d.dfl = []) (a b : PV) : pars d [a, b] = some ([some a, some b] ++ List.replicate (d.ns - 2) none) := by
  unfold pars
  rw [h1, h2, h3]
  rfl
theorem gcd_mod (a b : Int) : Int.gcd b (a % b) = Int.gcd a b := by
  have h := Int.gcd_add_mul_left_right b (a % b) (a / b)
  rw [Int.emod_add_mul_ediv] at h
  rw [← h, Int.gcd_comm]
/-- what the loop of _law_low does -/
theorem low_loop (k : Nat) (n d : PV) (st : Sto) : ∀ (b : Nat) (a : Int) (m : Nat), b < m → 0 < a ∨ 0 < b →
    ∃ g : Nat, g = Int.gcd a b ∧ whN (evt tab (runF tab k) (.cmp .gt (.var 3) (.int 0))) (exec tab (runF tab k) (.seq (.set (.nm 4) (.bin .mod (.blt .int (.cons (.var 2) .nil)) (.var 3))) (.seq (.set (.nm 2) (.var 3)) (.seq (.set (.nm 3) (.var 4)) (.seq (.wipe [4]) .skip))))) m [some n, some d, some (.int a), some (.int b), none] st = some (.ok .nx [some n, some d, some (.int g), some (.int 0), none] st) := by
  intro b
  induction b using Nat.strongRecOn with
  | ind b ih =>
    intro a m hm ha
    cases m with
    | zero => omega
    | succ m =>
      unfold whN
      by_cases hb : b = 0
      · subst hb
        refine ⟨_, rfl, ?_⟩
        simp
        omega
      · obtain ⟨g, e, w⟩ := ih (a % (b : Int)).toNat (by have := Int.emod_lt_of_pos a (b := (b : Int)) (by omega); have := Int.emod_nonneg a (b := (b : Int)) (by omega); omega) (b : Int) m (by have := Int.emod_lt_of_pos a (b := (b : Int)) (by omega); have := Int.emod_nonneg a (b := (b : Int)) (by omega); omega) (by omega)
        refine ⟨g, ?_, ?_⟩
        · rw [e, Int.toNat_of_nonneg (Int.emod_nonneg a (by omega))]
          exact gcd_mod a b
        · have hp : 0 < (b : Int) := by omega
          have hp2 : 0 < b := by omega
          simp only [xt, x_cmp, x_var, x_int, look_s, look_0, lif_some, bnd_ok, c_gt, t_bl, hp, decide_true]
          simp [hp2]
          have e2 := Int.toNat_of_nonneg (Int.emod_nonneg a (b := (b : Int)) (by omega))
          rw [e2] at w
          exact w
theorem low_run0 (k : Nat) (n d : Int) (st : Sto) (hd : 0 < d) (hs : d.natAbs < 2 ^ 300) : runF tab (k + 1) f__law_low [.int n, .int d] st = some (.ok (.tup [.int (n / (Int.gcd n d : Int)), .int (d / (Int.gcd n d : Int))]) st) := by
  rw [run_eq (d := d__law_low) rfl rfl]
  obtain ⟨g, e, w⟩ := low_loop k (.int n) (.int d) st d.toNat n (d.toNat + 1) (by omega) (by omega)
  rw [Int.toNat_of_nonneg (by omega)] at e w
  have w2 := whL_of w
  have gd : 0 < (g : Int) := by
    have : 0 < Int.gcd n d := Int.gcd_pos_of_ne_zero_right _ (by omega)
    omega
  have gs : (g : Int).natAbs < 2 ^ 300 := by
    have h1 : Int.gcd n d ≤ d.natAbs := Nat.le_of_dvd (by omega) (Int.gcd_dvd_natAbs_right ..)
    omega
  have sd := sdiv_of gd gs
  subst e
  simp [d__law_low, b__law_low, q_whil] at w2 ⊢
  rw [w2]
  simp [sd]
theorem low_run (k : Nat) (n d z : Int) (st : Sto) (hd : 0 < d) (hs : d.natAbs < 2 ^ 300) (h : n * 3000 = z * d) : runF tab (k + 1) f__law_low [.int n, .int d] st = some (.ok (mo z) st) := by
  rw [low_run0 k n d st hd hs, (low_of hd h).1, (low_of hd h).2]
  rfl
theorem moment_run (k : Nat) (n d z : Int) (st : Sto) (hn : 0 ≤ n) (hd : 0 < d) (hs : d.natAbs < 2 ^ 300) (h : n * 3000 = z * d) : runF tab (k + 1) f_moment [.int n, .int d] st = some (.ok (mo z) st) := by
  rw [run_eq (d := d_moment) rfl rfl]
  have gd : 0 < (Int.gcd n d : Int) := by
    have : 0 < Int.gcd n d := Int.gcd_pos_of_ne_zero_right _ (by omega)
    omega
  have gs : (Int.gcd n d : Int).natAbs < 2 ^ 300 := by
    have h1 : Int.gcd n d ≤ d.natAbs := Nat.le_of_dvd (by omega) (Int.gcd_dvd_natAbs_right ..)
    omega
  have sd := sdiv_of gd gs
  have e1 : ¬ n < 0 := by omega
  have e2 : ¬ d < 1 := by omega
  have e3 : (Nat.gcd n.natAbs d.natAbs : Nat) = Int.gcd n d := rfl
  simp [d_moment, b_moment, e1, e2, e3, sd]
  rw [(low_of hd h).1, (low_of hd h).2]
  rfl
theorem add_eq (a b : Int) : (nu a * de b + nu b * de a) * 3000 = (a + b) * (de a * de b) := by
  have h1 := nu_de a
  have h2 := nu_de b
  calc (nu a * de b + nu b * de a) * 3000 = (nu a * 3000) * de b + (nu b * 3000) * de a := by
        rw [Int.add_mul, Int.mul_assoc, Int.mul_comm (de b), ← Int.mul_assoc, Int.mul_assoc (nu b), Int.mul_comm (de a), ← Int.mul_assoc]
    _ = (a + b) * (de a * de b) := by rw [h1, h2, Int.add_mul, Int.mul_assoc, Int.mul_assoc, Int.mul_comm (de b)]
theorem dd_sm (a b : Int) : (de a * de b).natAbs < 2 ^ 300 := by
  rw [Int.natAbs_mul]
  have h1 := de_le a
  have h2 := de_pos a
  have h3 := de_le b
  have h4 := de_pos b
  have : (de a).natAbs * (de b).natAbs ≤ 3000 * 3000 := Nat.mul_le_mul (by omega) (by omega)
  omega
theorem plus_run (k : Nat) (a b : Int) (st : Sto) (ha : Z a) (hb : Z b) : runF tab (k + 2) f__law_plus [mo a, mo b] st = some (.ok (mo (a + b)) st) := by
  rw [run_eq (d := d__law_plus) rfl rfl]
  simp [d__law_plus, b__law_plus, mulND ha, mulND hb, mulDD, low_run k _ _ _ st (dd_pos a b) (dd_sm a b) (add_eq a b)]
theorem gap_run (k : Nat) (a b : Int) (st : Sto) (ha : Z a) (hb : Z b) : runF tab (k + 2) f__law_gap [mo a, mo b] st = some (.ok (mo (b - a)) st) := by
  have h := cross b a
  rw [Int.mul_comm (de b)] at h
  rw [run_eq (d := d__law_gap) rfl rfl]
  simp [d__law_gap, b__law_gap, mulND ha, mulND hb, mulDD, low_run k _ _ _ st (dd_pos a b) (dd_sm a b) h]
theorem since_run (k : Nat) (a b : Int) (st : Sto) (ha : Z a) (hb : Z b) (l : a ≤ b) : runF tab (k + 2) f_since [mo a, mo b] st = some (.ok (mo (b - a)) st) := by
  have h := cross b a
  rw [Int.mul_comm (de b)] at h
  have s := (sgn b a).1
  rw [run_eq (d := d_since) rfl rfl]
  have e : ¬ nu b * de a - nu a * de b < 0 := by omega
  simp [d_since, b_since, mulND ha, mulND hb, mulDD, e, moment_run k _ _ _ st (by omega) (dd_pos a b) (dd_sm a b) h]
def sg (a b : Int) : Int := if a < b then -1 else if b < a then 1 else 0
theorem compared_run (k : Nat) (a b : Int) (st : Sto) (ha : Z a) (hb : Z b) : runF tab (k + 1) f_compared [mo a, mo b] st = some (.ok (.int (sg a b)) st) := by
  have s := sgn a b
  rw [run_eq (d := d_compared) rfl rfl]
  unfold sg
  simp [d_compared, b_compared, mulND ha, mulND hb, mulDD, s.1, s.2]
  by_cases h1 : a < b
  · simp [h1]
  · by_cases h2 : b < a
    · simp [h1, h2, lt_iff]
    · simp [h1, h2, lt_iff]
@[simp] theorem asg_mo (i j : Nat) (z : Int) (env : BR.Env) : asg (.tup (.cons (.nm i) (.cons (.nm j) .nil))) (mo z) env = some ((env.set i (some (.int (nu z)))).set j (some (.int (de z)))) := by
  unfold mo
  simp
@[simp] theorem walked_tup (st : Sto) (xs : List PV) : walked st (.tup xs) = some (xs, none) := rfl
@[simp] theorem walked_lst (st : Sto) (xs : List PV) : walked st (.lst xs) = some (xs, none) := rfl
@[simp] theorem walked_tpd (st : Sto) (xs : List PV) : walked st (.tpd xs) = some (xs, none) := rfl
theorem mo0 : mo 0 = .tup [.int 0, .int 1] := rfl
theorem glb13 : tab.glb 13 = some (mo 0) := rfl
theorem glb15 : tab.glb 15 = some (mo 0) := rfl
theorem glb16 : tab.glb 16 = some (mo 0) := rfl
theorem glb27 : tab.glb 27 = some (mo 0) := rfl
theorem added_run (k : Nat) (a b : Int) (st : Sto) (ha : 0 ≤ a) (hb : 0 ≤ b) (za : Z a) (zb : Z b) (zc : Z (a + b)) : runF tab (k + 2) f_added [mo a, mo b] st = some (.ok (mo (a + b)) st) := by
  rw [run_eq (d := d_added) rfl rfl]
  have pos : ∀ a b : Int, 0 ≤ a → 0 ≤ b → 0 ≤ nu a * de b + nu b * de a := fun a b ha hb => by
    have h := add_eq a b
    have p := dd_pos a b
    have : 0 ≤ (a + b) * (de a * de b) := Int.mul_nonneg (by omega) (by omega)
    omega
  have z0 : Z 0 := by unfold Z; omega
  have m1 := moment_run k _ _ _ st (pos 0 a (by omega) ha) (dd_pos 0 a) (dd_sm 0 a) (add_eq 0 a)
  have m2 := moment_run k _ _ _ st (pos a b ha hb) (dd_pos a b) (dd_sm a b) (add_eq a b)
  rw [Int.zero_add] at m1
  simp [d_added, b_added, q_fors, glb16, forL, mulND z0, mulND za, mulND zb, mulDD, m1, m2]
end K87
end
section
set_option Elab.async false
set_option linter.all false
set_option maxRecDepth 100000
set_option maxHeartbeats 4000000
/-! W5: edges, spans, caps. -/
namespace K87
open PySem hiding Env exec
open BR KM
def eE (e : Edge) : PV := .tup [.int e.1, .int e.2]
def eC : Option Edge → PV
  | none => .non
  | some e => eE e
def eSp (s : Span) : PV := .tup [eE s.1, eC s.2]
/-- an edge that is used here -/
def Le (e : Edge) : Prop := -1000000 ≤ e.1 ∧ e.1 ≤ 1000000 ∧ (e.2 = 0 ∨ e.2 = 1)
def LeO (o : Option Edge) : Prop := ∀ e, o = some e → Le e
def Ls (s : Span) : Prop := Le s.1 ∧ LeO s.2
@[simp] theorem isNon_eE (e : Edge) : isNon (eE e) = false := rfl
@[simp] theorem isNon_mo (e : Int) : isNon (mo e) = false := rfl
@[simp] theorem isNon_eC (e : Option Edge) : isNon (eC e) = e.isNone := by cases e <;> rfl
@[simp] theorem eC_none : eC none = .non := rfl
@[simp] theorem eC_some (e : Edge) : eC (some e) = eE e := rfl
@[simp] theorem ixE0 (st : Sto) (e : Edge) : idxP st (eE e) (.int 0) = some (.int e.1) := rfl
@[simp] theorem ixE1 (st : Sto) (e : Edge) : idxP st (eE e) (.int 1) = some (.int e.2) := rfl
@[simp] theorem ixS0 (st : Sto) (s : Span) : idxP st (eSp s) (.int 0) = some (eE s.1) := rfl
@[simp] theorem ixS1 (st : Sto) (s : Span) : idxP st (eSp s) (.int 1) = some (eC s.2) := rfl
@[simp] theorem asg_eE (i j : Nat) (e : Edge) (env : BR.Env) : asg (.tup (.cons (.nm i) (.cons (.nm j) .nil))) (eE e) env = some ((env.set i (some (.int e.1))).set j (some (.int e.2))) := by
  unfold eE
  simp
@[simp] theorem asg_eSp (i j : Nat) (s : Span) (env : BR.Env) : asg (.tup (.cons (.nm i) (.cons (.nm j) .nil))) (eSp s) env = some ((env.set i (some (eE s.1))).set j (some (eC s.2))) := by
  unfold eSp
  simp
theorem e_sm {e : Edge} (h : Le e) : e.1.natAbs < 2 ^ 300 := by
  unfold Le at h
  omega
theorem mulED {e : Edge} {z : Int} (h : Le e) : smul e.1 (de z) := smul_of (e_sm h) (de_sm z)
theorem lim_eq (z l : Int) : (nu z - l * de z) * 3000 = (z - l * 3000) * de z := by
  have h := nu_de z
  rw [Int.sub_mul, h, Int.sub_mul, Int.mul_assoc, Int.mul_assoc, Int.mul_comm (de z)]
theorem lim_sgn (z l : Int) : (nu z < l * de z ↔ z < l * 3000) ∧ (l * de z < nu z ↔ l * 3000 < z) ∧ (nu z = l * de z ↔ z = l * 3000) := by
  have h := lim_eq z l
  have p := de_pos z
  have a1 : z < l * 3000 → (z - l * 3000) * de z < 0 := fun c => Int.mul_neg_of_neg_of_pos (by omega) p
  have a2 : l * 3000 < z → 0 < (z - l * 3000) * de z := fun c => Int.mul_pos (by omega) p
  have a3 : z = l * 3000 → (z - l * 3000) * de z = 0 := fun c => by rw [c, Int.sub_self, Int.zero_mul]
  omega
theorem lim_sub (z l : Int) : (nu z - l * de z < 0 ↔ z < l * 3000) ∧ (nu z - l * de z = 0 ↔ z = l * 3000) ∧ (0 < nu z - l * de z ↔ l * 3000 < z) ∧ (l * de z - nu z < 0 ↔ l * 3000 < z) ∧ (l * de z - nu z = 0 ↔ z = l * 3000) ∧ (0 < l * de z - nu z ↔ z < l * 3000) := by
  have h := lim_sgn z l
  omega
theorem in_span_run (k : Nat) (z : Int) (s : Span) (st : Sto) (hs : Ls s) : runF tab (k + 1) f_in_span [mo z, eSp s] st = some (.ok (.bl (inS s z)) st) := by
  obtain ⟨⟨l, r⟩, h⟩ := s
  obtain ⟨h1, h2⟩ := hs
  obtain ⟨a1, a2, a3, _⟩ := lim_sub z l
  obtain ⟨c1, c2, c3⟩ := lim_sgn z l
  have m := mulED (z := z) h1
  rw [run_eq (d := d_in_span) rfl rfl]
  simp only [] at m h1 h2
  have hr := h1.2.2
  simp only [] at hr
  cases h with
  | none =>
    simp [d_in_span, b_in_span, m, a1, a2, c1, c2, c3]
    rw [Bool.eq_iff_iff]
    simp [inS, lo_iff]
    omega
  | some q =>
    have m2 := mulED (z := z) (h2 q rfl)
    obtain ⟨_, _, _, b4, b5, b6⟩ := lim_sub z q.1
    obtain ⟨e1, e2, e3⟩ := lim_sgn z q.1
    simp [d_in_span, b_in_span, m, m2, a1, a2, b5, e1, c1, c2, c3]
    rw [Bool.eq_iff_iff]
    simp [inS, lo_iff, up_iff]
    omega
theorem lawin_run (k : Nat) (z : Int) (s : Span) (st : Sto) (hs : Ls s) : runF tab (k + 1) f__law_in [mo z, eSp s] st = some (.ok (.bl (inS s z)) st) := by
  obtain ⟨⟨l, r⟩, h⟩ := s
  obtain ⟨h1, h2⟩ := hs
  obtain ⟨c1, c2, c3⟩ := lim_sgn z l
  have m := mulED (z := z) h1
  rw [run_eq (d := d__law_in) rfl rfl]
  simp only [] at m h1 h2
  have hr := h1.2.2
  simp only [] at hr
  cases h with
  | none =>
    simp [d__law_in, b__law_in, m, c1, c2, c3]
    rw [Bool.eq_iff_iff]
    simp [inS, lo_iff]
    omega
  | some q =>
    have m2 := mulED (z := z) (h2 q rfl)
    obtain ⟨e1, e2, e3⟩ := lim_sgn z q.1
    simp [d__law_in, b__law_in, m, m2, c1, c2, c3, e1, e2, e3]
    rw [Bool.eq_iff_iff]
    simp [inS, lo_iff, up_iff]
    omega
theorem cap_eq (c : Int) (a b : Int) : (c * de a * de b - (nu a * de b - nu b * de a)) * 3000 = (c * 3000 - (a - b)) * (de a * de b) := by
  have h := cross a b
  grind
theorem cap_sgn (c a b : Int) : (0 < c * de a * de b - (nu a * de b - nu b * de a) ↔ a - b < c * 3000) ∧ (c * de a * de b - (nu a * de b - nu b * de a) = 0 ↔ a - b = c * 3000) := by
  have h := cap_eq c a b
  have p := dd_pos a b
  have a1 : c * 3000 - (a - b) < 0 → (c * 3000 - (a - b)) * (de a * de b) < 0 := fun c => Int.mul_neg_of_neg_of_pos (by omega) p
  have a2 : 0 < c * 3000 - (a - b) → 0 < (c * 3000 - (a - b)) * (de a * de b) := fun c => Int.mul_pos (by omega) p
  have a3 : c * 3000 - (a - b) = 0 → (c * 3000 - (a - b)) * (de a * de b) = 0 := fun c => by rw [c, Int.zero_mul]
  omega
def capB (c : Option Edge) (z : Int) : Bool := match c with
  | none => true
  | some e => up e z
theorem capB_ok (c : Option Edge) (z : Int) : capB c z = true ↔ cOk c z := by
  cases c <;> simp [capB, cOk]
theorem allows_run (k : Nat) (a b : Int) (c : Option Edge) (st : Sto) (hc : LeO c) (ha : Z a) (hb : Z b) : runF tab (k + 1) f_cap_allows [eC c, mo a, mo b] st = some (.ok (.bl (capB c (a - b))) st) := by
  rw [run_eq (d := d_cap_allows) rfl rfl]
  cases c with
  | none => simp [d_cap_allows, b_cap_allows, capB]
  | some q =>
    have h := hc q rfl
    have m1 := mulED (z := a) h
    have m2 : smul (q.1 * de a) (de b) := smul_of (by
      rw [Int.natAbs_mul]
      have h1 := de_le a
      have h2 := de_pos a
      have : q.1.natAbs * (de a).natAbs ≤ 1000000 * 3000 := Nat.mul_le_mul (by unfold Le at h; omega) (by omega)
      omega) (de_sm b)
    obtain ⟨e1, e2⟩ := cap_sgn q.1 a b
    have e3 : nu a * de b - nu b * de a < q.1 * de a * de b ↔ a - b < q.1 * 3000 := by omega
    simp [d_cap_allows, b_cap_allows, mulND ha, mulND hb, m1, m2, e1, e2, e3]
    rw [Bool.eq_iff_iff]
    simp [capB, up_iff]
end K87
end
section
set_option Elab.async false
set_option linter.all false
set_option maxRecDepth 100000
set_option maxHeartbeats 4000000
/-! W6: judges of small things. -/
namespace K87
open PySem hiding Env exec
open BR KM
@[simp] theorem isi_int_int (i : Int) : isiP (.int i) .int = some true := rfl
@[simp] theorem isi_int_bool (i : Int) : isiP (.int i) .bool = some false := rfl
@[simp] theorem isi_bl_bool (i : Bool) : isiP (.bl i) .bool = some true := rfl
@[simp] theorem isi_str_str (i : Str) : isiP (.str i) .str = some true := rfl
@[simp] theorem isi_tup (xs : List PV) : isiP (.tup xs) .tuple = some true := rfl
@[simp] theorem isi_tpd (xs : List PV) : isiP (.tpd xs) .tuple = some true := rfl
@[simp] theorem isi_mo (z : Int) : isiP (mo z) .tuple = some true := rfl
@[simp] theorem isi_eE (z : Edge) : isiP (eE z) .tuple = some true := rfl
@[simp] theorem isi_eSp (z : Span) : isiP (eSp z) .tuple = some true := rfl
@[simp] theorem len_tup (st : Sto) (xs : List PV) : bltf st .len [.tup xs] = some (.int xs.length) := rfl
@[simp] theorem len_tpd (st : Sto) (xs : List PV) : bltf st .len [.tpd xs] = some (.int xs.length) := rfl
@[simp] theorem len_lst (st : Sto) (xs : List PV) : bltf st .len [.lst xs] = some (.int xs.length) := rfl
@[simp] theorem len_arg (st : Sto) (xs : List PV) : bltf st .len [.arg xs] = some (.int xs.length) := rfl
@[simp] theorem len_str (st : Sto) (s : Str) : bltf st .len [.str s] = some (.int s.length) := rfl
@[simp] theorem len_mo (st : Sto) (z : Int) : bltf st .len [mo z] = some (.int 2) := rfl
@[simp] theorem len_eE (st : Sto) (z : Edge) : bltf st .len [eE z] = some (.int 2) := rfl
@[simp] theorem len_eSp (st : Sto) (z : Span) : bltf st .len [eSp z] = some (.int 2) := rfl
@[simp] theorem peq_mo (a b : Int) : peq (mo a) (mo b) = some (decide (a = b)) := by
  have e : peq (mo a) (mo b) = some ((nu a == nu b) && ((de a == de b) && true)) := rfl
  rw [e]
  congr 1
  rw [Bool.eq_iff_iff]
  simp
  exact ⟨fun h => nu_inj h.1 h.2, fun h => by simp [h]⟩
theorem lwhole_run (k : Nat) (i : Int) (st : Sto) : runF tab (k + 1) f__law_whole [.int i] st = some (.ok (.bl true) st) := by
  rw [run_eq (d := d__law_whole) rfl rfl]
  simp [d__law_whole, b__law_whole]
theorem whole_run (k : Nat) (i : Int) (st : Sto) : runF tab (k + 1) f_is_whole [.int i] st = some (.ok (.bl true) st) := by
  rw [run_eq (d := d_is_whole) rfl rfl]
  simp [d_is_whole, b_is_whole]
theorem nu_nonneg {z : Int} (h : 0 ≤ z) : 0 ≤ nu z := Int.ediv_nonneg h (by omega)
theorem is_moment_run (k : Nat) (z : Int) (st : Sto) (h : 0 ≤ z) : runF tab (k + 2) f_is_moment [mo z] st = some (.ok (.bl true) st) := by
  rw [run_eq (d := d_is_moment) rfl rfl]
  have h1 := nu_nonneg h
  have h2 : 1 ≤ de z := de_pos z
  have h3 : Nat.gcd (nu z).natAbs (de z).natAbs = 1 := nu_cop z
  simp [d_is_moment, b_is_moment, whole_run, h1, h2, h3]
theorem lmoment_run (k : Nat) (z : Int) (st : Sto) (h : 0 ≤ z) : runF tab (k + 2) f__law_is_moment [mo z] st = some (.ok (.bl true) st) := by
  rw [run_eq (d := d__law_is_moment) rfl rfl]
  have h1 : ¬ nu z < 0 := by have := nu_nonneg h; omega
  have h2 : ¬ de z < 1 := by have := de_pos z; omega
  simp [d__law_is_moment, b__law_is_moment, lwhole_run, h1, h2, low_run k _ _ _ st (de_pos z) (de_sm z) (nu_de z)]
theorem is_edge_run (k : Nat) (e : Edge) (st : Sto) (h : Le e) : runF tab (k + 2) f_is_edge [eE e] st = some (.ok (.bl true) st) := by
  rw [run_eq (d := d_is_edge) rfl rfl]
  have h1 : 0 ≤ e.2 := by unfold Le at h; omega
  have h2 : e.2 ≤ 1 := by unfold Le at h; omega
  simp [d_is_edge, b_is_edge, whole_run, h1, h2]
theorem is_cap_run (k : Nat) (e : Option Edge) (st : Sto) (h : LeO e) : runF tab (k + 3) f_is_cap [eC e] st = some (.ok (.bl true) st) := by
  rw [run_eq (d := d_is_cap) rfl rfl]
  cases e with
  | none => simp [d_is_cap, b_is_cap]
  | some e => simp [d_is_cap, b_is_cap, is_edge_run k e st (h e rfl)]
theorem lcap_run (k : Nat) (e : Option Edge) (st : Sto) (h : LeO e) : runF tab (k + 2) f__law_is_cap [eC e] st = some (.ok (.bl true) st) := by
  rw [run_eq (d := d__law_is_cap) rfl rfl]
  cases e with
  | none => simp [d__law_is_cap, b__law_is_cap]
  | some e =>
    have h := h e rfl
    have h1 : 0 ≤ e.2 := by unfold Le at h; omega
    have h2 : e.2 ≤ 1 := by unfold Le at h; omega
    simp [d__law_is_cap, b__law_is_cap, lwhole_run, h1, h2]
/-- a span of the gate -/
def Lw (s : Span) : Prop := Ls s ∧ 0 ≤ s.1.1 ∧ ∀ e, s.2 = some e → s.1.1 < e.1 ∨ (s.1.1 = e.1 ∧ s.1.2 = 1 ∧ e.2 = 1)
theorem is_span_run (k : Nat) (s : Span) (st : Sto) (h : Lw s) : runF tab (k + 3) f_is_span [eSp s] st = some (.ok (.bl true) st) := by
  obtain ⟨⟨l, r⟩, q⟩ := s
  obtain ⟨⟨h1, h2⟩, h3, h4⟩ := h
  rw [run_eq (d := d_is_span) rfl rfl]
  simp only [] at h1 h2 h3 h4
  have n : ¬ l < 0 := by omega
  cases q with
  | none => simp [d_is_span, b_is_span, is_edge_run k _ st h1, n]
  | some e =>
    have h5 := h4 e rfl
    have t : (decide (l < e.1) || (decide (e.1 = l) && (decide (r = 1) && decide (e.2 = 1)))) = true := by
      simp
      omega
    simp [d_is_span, b_is_span, is_edge_run k _ st h1, is_edge_run k _ st (h2 e rfl), n, t]
end K87
end
section
set_option Elab.async false
set_option linter.all false
set_option maxRecDepth 100000
set_option maxHeartbeats 4000000
/-! W7: texts and names. -/
namespace K87
open PySem hiding Env exec
open BR KM
abbrev Str := PySem.Str
def ltr (l : List Nat) : Prop := (∀ c ∈ l, 97 ≤ c ∧ c ≤ 122) ∧ 1 ≤ l.length ∧ l.length ≤ 12
/-- a simple name -/
def Sim (s : Str) : Prop := ∃ l, ltr l ∧ s = SX.S l
/-- a name -/
def Nam (s : Str) : Prop := ∃ l, ltr l ∧ (s = SX.S l ∨ ∃ p, ltr p ∧ s = SX.S (p ++ 46 :: l))
theorem Sim.nam {s : Str} (h : Sim s) : Nam s := let ⟨l, h1, h2⟩ := h; ⟨l, h1, .inl h2⟩
theorem Sim.ok {s : Str} (h : Sim s) : PyData.strOk s = true := by
  obtain ⟨l, h1, rfl⟩ := h
  unfold PyData.strOk
  rw [← Array.all_toList, List.all_eq_true]
  intro c hc
  have := h1.1 c hc
  simp
  omega
theorem Nam.ok {s : Str} (h : Nam s) : PyData.strOk s = true := by
  obtain ⟨l, h1, rfl | ⟨p, h2, rfl⟩⟩ := h
  · exact Sim.ok ⟨l, h1, rfl⟩
  · unfold PyData.strOk
    rw [← Array.all_toList, List.all_eq_true]
    intro c hc
    have hc : c ∈ p ++ 46 :: l := hc
    simp only [List.mem_append, List.mem_cons] at hc
    simp only [decide_eq_true_eq]
    rcases hc with h | h | h
    · have := h2.1 c h; omega
    · omega
    · have := h1.1 c h; omega
theorem peq_str {a b : Str} (ha : PyData.strOk a = true) (hb : PyData.strOk b = true) : peq (.str a) (.str b) = some (decide (a = b)) := by
  have e : peq (.str a) (.str b) = if (SeqAt.shaped (.str a) && SeqAt.shaped (.str b)) = true then some (a == b) else none := rfl
  have k : ∀ c : Str, PyData.strOk c = true → SeqAt.shaped (.str c) = true := fun c hc => by
    unfold SeqAt.shaped
    have : PyData.canLay0 (.str c) = PyData.strOk c := rfl
    rw [this, hc]
    rfl
  rw [e, k a ha, k b hb]
  rfl
@[simp] theorem inP_tup (st : Sto) (z : Str) (l : List Str) : inP st (.str z) (.tup (l.map .str)) = some (decide (z ∈ l)) := by
  have e : inP st (.str z) (.tup (l.map .str)) = if (flatP (.str z) && (l.map PV.str).all flatP) = true then some ((l.map PV.str).any fun y => eqF y (.str z)) else none := rfl
  have k : (l.map PV.str).all flatP = true := by simp [flatP]
  rw [e, k]
  have e2 : (flatP (.str z) && true) = true := rfl
  rw [if_pos e2]
  congr 1
  rw [Bool.eq_iff_iff]
  simp [eqF]
@[simp] theorem inP_tpd (st : Sto) (z : Str) (l : List Str) : inP st (.str z) (.tpd (l.map .str)) = some (decide (z ∈ l)) := inP_tup st z l
@[simp] theorem inP_lst (st : Sto) (z : Str) (l : List Str) : inP st (.str z) (.lst (l.map .str)) = some (decide (z ∈ l)) := inP_tup st z l
@[simp] theorem inP_dct (st : Sto) (z : Str) (ks : List L2.Key) (vs : List PV) : inP st (.str z) (.dct ks vs) = some (ks.any fun j => decide (j = .inr z)) := rfl
theorem inP_ref {st : Sto} {n : Nat} {ks : List L2.Key} {vs : List PV} (z : Str) (h : st[n]? = some (.dct ks vs)) : inP st (.str z) (.ref n) = some (ks.any fun j => decide (j = .inr z)) := by
  have e : seqOf st (.ref n) = none := by simp only [seqOf, h]
  have e2 : dctOf st (.ref n) = some (ks, vs) := by simp only [dctOf, h]
  unfold inP
  simp only [e, e2, keyOf, Option.map_some]
theorem all_bls {α : Type} (st : Sto) (l : List α) (f : α → Bool) : bltf st .all [.lst (l.map fun a => .bl (f a))] = some (.bl (l.all f)) := by
  have e : bltf st .all [.lst (l.map fun a => PV.bl (f a))] = (blsOf (l.map fun a => PV.bl (f a))).map fun bs => .bl (bs.all id) := rfl
  have k : ∀ l : List α, blsOf (l.map fun a => PV.bl (f a)) = some (l.map f) := fun l => by
    induction l with
    | nil => rfl
    | cons a l ih => simp [blsOf, ih]
  rw [e, k]
  simp
def letters : Str := Str.ofString "abcdefghijklmnopqrstuvwxyz"
theorem glb26 : tab.glb 26 = some (.str letters) := rfl
theorem glb25 : tab.glb 25 = some (.int 12) := rfl
theorem glb19 : tab.glb 19 = some (.int 200) := rfl
theorem letters_eq : letters.cps.toList = (List.range 26).map (· + 97) := by decide +kernel
theorem letters_mem (c : Nat) : c ∈ letters.cps ↔ 97 ≤ c ∧ c ≤ 122 := by
  rw [← Array.mem_toList_iff, letters_eq]
  simp only [List.mem_map, List.mem_range]
  constructor
  · rintro ⟨a, h, rfl⟩
    omega
  · intro h
    exact ⟨c - 97, by omega, by omega⟩
/-- the signs of a text -/
def sgn1 (c : Nat) : PV := .str ⟨#[c]⟩
@[simp] theorem walked_str (st : Sto) (s : Str) : walked st (.str s) = some (s.cps.toList.map sgn1, none) := rfl
theorem inP_sgn (st : Sto) (c : Nat) (s : Str) : inP st (sgn1 c) (.str s) = some (decide (c ∈ s.cps.toList)) := rfl
theorem is_simple_run (k : Nat) (s : Str) (st : Sto) (h : Sim s) : runF tab (k + 1) f_is_simple [.str s] st = some (.ok (.bl true) st) := by
  obtain ⟨l, h, rfl⟩ := h
  rw [run_eq (d := d_is_simple) rfl rfl]
  have h1 : (1 : Int) ≤ l.length := by have := h.2.1; omega
  have h2 : (l.length : Int) ≤ 12 := by have := h.2.2; omega
  simp [d_is_simple, b_is_simple, x_lc, glb25, glb26, SX.S_len, h1, h2]
  rw [lcL_map sgn1 (fun c => PV.bl (decide (97 ≤ c ∧ c ≤ 122))) trivial l (fun c hc => by simp [inP_sgn, letters_mem])]
  simp [all_bls]
  exact h.1
theorem dot : (Str.ofString ".") = SX.S [46] := by decide +kernel
theorem no46 {l : List Nat} (h : ltr l) : 46 ∉ l := fun m => by have := h.1 46 m; omega
theorem split_one {l : List Nat} (h : ltr l) : Txt.split (SX.S l) (SX.S [46]) = [SX.S l] := by
  rw [SX.split_S (by simp) (by decide), TL.spl_last1 (no46 h)]
  rfl
theorem split_two {p l : List Nat} (hp : ltr p) (h : ltr l) : Txt.split (SX.S (p ++ 46 :: l)) (SX.S [46]) = [SX.S p, SX.S l] := by
  rw [SX.split_S (by simp) (by decide)]
  have e : p ++ 46 :: l = p ++ (46 :: [] ++ l) := by simp
  rw [e, TL.spl_part1 (no46 hp), TL.spl_last1 (no46 h)]
  rfl
theorem Nam.split {s : Str} (h : Nam s) : ∃ ps, (∀ p ∈ ps, Sim p) ∧ ps.length ≤ 2 ∧ Txt.split s (SX.S [46]) = ps ∧ s.length ≤ 25 := by
  obtain ⟨l, h1, rfl | ⟨p, h2, rfl⟩⟩ := h
  · refine ⟨[SX.S l], ?_, by simp, split_one h1, ?_⟩
    · intro p hp
      rw [List.mem_singleton] at hp
      subst hp
      exact ⟨l, h1, rfl⟩
    · rw [SX.S_len]
      have := h1.2.2
      omega
  · refine ⟨[SX.S p, SX.S l], ?_, by simp, split_two h2 h1, ?_⟩
    · intro q hq
      simp only [List.mem_cons, List.not_mem_nil, or_false] at hq
      rcases hq with rfl | rfl
      · exact ⟨p, h2, rfl⟩
      · exact ⟨l, h1, rfl⟩
    · rw [SX.S_len, List.length_append, List.length_cons]
      have := h1.2.2
      have := h2.2.2
      omega
theorem Sim.len {s : Str} (h : Sim s) : s.length ≤ 12 := by
  obtain ⟨l, h, rfl⟩ := h
  rw [SX.S_len]
  exact h.2.2
theorem is_name_run (k : Nat) (s : Str) (st : Sto) (h : Nam s) : runF tab (k + 2) f_is_name [.str s] st = some (.ok (.bl true) st) := by
  obtain ⟨ps, h1, h2, h3, h4⟩ := h.split
  rw [run_eq (d := d_is_name) rfl rfl]
  have e1 : ¬ (200 : Int) < s.length := by omega
  have e2 : bmf st .split (.str s) (.str (Str.ofString ".")) = some (.lst (ps.map .str)) := by
    have e : bmf st .split (.str s) (.str (Str.ofString ".")) = if (Str.ofString ".").length ≠ 0 ∧ s.length ≤ 1000000 ∧ (Txt.split s (Str.ofString ".")).length ≤ 1000000 ∧ (Txt.split s (Str.ofString ".")).all (fun s => decide (s.length ≤ 1000000)) = true then some (.lst ((Txt.split s (Str.ofString ".")).map .str)) else none := rfl
    rw [e, dot, h3, if_pos]
    refine ⟨by decide, by omega, by omega, ?_⟩
    rw [List.all_eq_true]
    intro p hp
    have := (h1 p hp).len
    simp
    omega
  simp [d_is_name, b_is_name, x_lc, glb19, e1, e2, bmR]
  rw [lcL_map PV.str (fun _ => PV.bl true) trivial ps (fun c hc => by simp [is_simple_run k c st (h1 c hc)])]
  have e3 := all_bls st ps (fun _ => true)
  simp [e3]
end K87
end
section
set_option Elab.async false
set_option linter.all false
set_option maxRecDepth 100000
set_option maxHeartbeats 4000000
/-! W8: what is walked; the card; names of parts. -/
namespace K87
open PySem hiding Env exec
open BR KM
section
variable {T : Tab} {Φ : Phi} {env : BR.Env} {st : Sto}
def enmL (x : PV) (st : Sto) : Mo (List PV × Option (Nat × List PV)) := match x with
  | .tup xs => some (.ok (enmP xs, none) st)
  | .tpd xs => some (.ok (enmP xs, none) st)
  | .lst xs => some (.ok (enmP xs, none) st)
  | .arg xs => some (.ok (enmP xs, none) st)
  | _ => none
@[simp] theorem enmL_tup (xs : List PV) : enmL (.tup xs) st = some (.ok (enmP xs, none) st) := rfl
@[simp] theorem enmL_tpd (xs : List PV) : enmL (.tpd xs) st = some (.ok (enmP xs, none) st) := rfl
@[simp] theorem enmL_lst (xs : List PV) : enmL (.lst xs) st = some (.ok (enmP xs, none) st) := rfl
@[simp] theorem xi_enm (e : E) : evi T Φ (.enm e) env st = bnd (ev T Φ e env st) fun x st => enmL x st := by
  simp only [evi]
  rfl
def rngL (x : PV) (st : Sto) : Mo (List PV × Option (Nat × List PV)) := match x with
  | .int n => if -1000000 ≤ n ∧ n ≤ 1000000 then some (.ok (rngP 0 n, none) st) else none
  | _ => none
theorem rng_map (n : Nat) : rngP 0 (n : Int) = (List.range n).map fun (i : Nat) => PV.int (i : Int) := by
  unfold rngP
  rw [show ((n : Int) - 0).toNat = n by omega]
  congr 1
  funext i
  rw [Int.zero_add]
theorem rngL_nat (n : Nat) (h : n ≤ 1000000) : rngL (.int n) st = some (.ok ((List.range n).map (fun (i : Nat) => PV.int (i : Int)), none) st) := by
  unfold rngL
  simp only []
  rw [if_pos (by omega), rng_map]
theorem rngL_int (n : Int) (h0 : 0 ≤ n) (h : n ≤ 1000000) : rngL (.int n) st = some (.ok ((List.range n.toNat).map (fun (i : Nat) => PV.int (i : Int)), none) st) := by
  have := rngL_nat (st := st) n.toNat (by omega)
  rwa [Int.toNat_of_nonneg h0] at this
@[simp] theorem xi_rng1 (e : E) : evi T Φ (.rng1 e) env st = bnd (ev T Φ e env st) fun x st => rngL x st := by
  simp only [evi]
  rfl
def revL (x : PV) (st : Sto) : Mo (List PV × Option (Nat × List PV)) := match x with
  | .int n => if -1000000 ≤ n ∧ n ≤ 1000000 then some (.ok ((rngP 0 n).reverse, none) st) else none
  | _ => none
@[simp] theorem xi_rev1 (e : E) : evi T Φ (.revr1 e) env st = bnd (ev T Φ e env st) fun x st => revL x st := by
  simp only [evi]
  rfl
def zipL (x y : PV) (st : Sto) : Mo (List PV × Option (Nat × List PV)) := match x, y with
  | .tup xs, .tup ys => some (.ok (zipP xs ys, none) st)
  | _, _ => none
@[simp] theorem zipL_tup (xs ys : List PV) : zipL (.tup xs) (.tup ys) st = some (.ok (zipP xs ys, none) st) := rfl
@[simp] theorem xi_zip (a b : E) : evi T Φ (.zip a b) env st = bnd (ev T Φ a env st) fun x st => bnd (ev T Φ b env st) fun y st => zipL x y st := by
  simp only [evi]
  rfl
def rng2L (x y : PV) (st : Sto) : Mo (List PV × Option (Nat × List PV)) := match x, y with
  | .int i, .int j => if -1000000 ≤ i ∧ i ≤ 1000000 ∧ -1000000 ≤ j ∧ j ≤ 1000000 then some (.ok (rngP i j, none) st) else none
  | _, _ => none
@[simp] theorem xi_rng2 (a b : E) : evi T Φ (.rng2 a b) env st = bnd (ev T Φ a env st) fun x st => bnd (ev T Φ b env st) fun y st => rng2L x y st := by
  simp only [evi]
  rfl
end
/-- an item with its place -/
def eNum {α : Type} (enc : α → PV) (p : α × Nat) : PV := .tup [.int p.2, enc p.1]
theorem enm_map {α : Type} (enc : α → PV) (l : List α) : enmP (l.map enc) = l.zipIdx.map (eNum enc) := by
  unfold enmP
  rw [List.zipIdx_map, List.map_map]
  rfl
@[simp] theorem asg_eNum {α : Type} (enc : α → PV) (p : α × Nat) (i j : Nat) (env : BR.Env) : asg (.tup (.cons (.nm i) (.cons (.nm j) .nil))) (eNum enc p) env = some ((env.set i (some (.int p.2))).set j (some (enc p.1))) := by
  unfold eNum
  simp
theorem zipIdx_fst {α : Type} (l : List α) (n : Nat) : (l.zipIdx n).map (·.1) = l := by
  induction l generalizing n with
  | nil => rfl
  | cons a l ih => simp [ih]
/-! dicts of the store -/
theorem putK_mem {k j : L2.Key} {ks : List L2.Key} (h : j ∈ putK k ks) : j ∈ ks ∨ j = k := by
  unfold putK at h
  split at h
  · exact .inl h
  · rw [List.mem_append, List.mem_singleton] at h
    exact h
theorem putK_len (k : L2.Key) (ks : List L2.Key) : (putK k ks).length ≤ ks.length + 1 := by
  unfold putK
  split
  · omega
  · simp
theorem putK_new {k : L2.Key} {ks : List L2.Key} (h : ∀ j ∈ ks, j ≠ k) : putK k ks = ks ++ [k] := by
  unfold putK
  rw [if_neg]
  intro h2
  obtain ⟨j, m, e⟩ := List.any_eq_true.mp h2
  exact h j m (of_decide_eq_true e)
theorem putV_new {k : L2.Key} {v : PV} {ks : List L2.Key} {vs : List PV} (h : ∀ j ∈ ks, j ≠ k) : putV k v ks vs = vs ++ [v] := by
  unfold putV
  rw [if_neg]
  intro h2
  obtain ⟨j, m, e⟩ := List.any_eq_true.mp h2
  exact h j m (of_decide_eq_true e)
theorem any_no {k : L2.Key} {ks : List L2.Key} (h : ∀ j ∈ ks, j ≠ k) : (ks.any fun j => decide (j = k)) = false := by
  rw [List.any_eq_false]
  intro j m
  simpa using h j m
theorem six_dct {env : BR.Env} {st : Sto} {n : Nat} {ks : List L2.Key} {vs : List PV} (h : st[n]? = some (.dct ks vs)) (s : Str) (v : PV) (hl : ks.length < 1000) :
    sixP env st (.ref n) (.str s) v = some (.ok .nx env (st.set n (.dct (putK (.inr s) ks) (putV (.inr s) v ks vs)))) := by
  have e : sixP env st (.ref n) (.str s) v = (match st[n]? with
      | some (.lst xs) => none
      | some (.dct ks vs) => (match keyOf (.str s) with
        | some k => if ks.length < sizeLine then some (.ok .nx env (st.set n (.dct (putK k ks) (putV k v ks vs)))) else none
        | none => none)
      | _ => none) := rfl
  rw [e, h]
  simp only [keyOf]
  rw [if_pos (by rw [sizeLine_eq]; omega)]
@[simp] theorem isCL_end (st : Sto) (xs : List PV) : isCL (st ++ [.lst xs]) (.ref st.length) = true := by simp [isCL]
theorem app_end {env : BR.Env} {st : Sto} {xs : List PV} (v : PV) (h : xs.length < 10000) : appP env (st ++ [.lst xs]) (.ref st.length) v = some (.ok .nx env (st ++ [.lst (xs ++ [v])])) := by
  unfold appP
  simp
  rw [sizeLine_eq]
  omega
/-! the card -/
def eL (l : List Str) : List PV := l.map .str
def ePr {α : Type} (enc : α → PV) (p : Str × α) : PV := .tup [.str p.1, enc p.2]
def eStay (l : List (Str × Edge)) : PV := .tup (l.map (ePr eE))
def eTest (l : List (Str × Span)) : PV := .tup (l.map (ePr eSp))
def eSta (p : Str × List (Str × Edge)) : PV := .tup [.str p.1, eStay p.2]
def eStp (p : Stp Str) : PV := .tup [.str p.src, .str p.deed, eTest p.test, .tup (eL p.res), .str p.tgt]
def eCrd (c : Crd Str) : PV := .tup [.str c.name, .tpd (eL c.cl), .tup (c.sts.map eSta), .tup (c.steps.map eStp), .tup (eL c.also)]
@[simp] theorem eL_len (l : List Str) : (eL l).length = l.length := by simp [eL]
@[simp] theorem inP_tupL (st : Sto) (z : Str) (l : List Str) : inP st (.str z) (.tup (eL l)) = some (decide (z ∈ l)) := inP_tup st z l
@[simp] theorem inP_tpdL (st : Sto) (z : Str) (l : List Str) : inP st (.str z) (.tpd (eL l)) = some (decide (z ∈ l)) := inP_tup st z l
@[simp] theorem inP_lstL (st : Sto) (z : Str) (l : List Str) : inP st (.str z) (.lst (eL l)) = some (decide (z ∈ l)) := inP_tup st z l
structure StayOk (cl : List Str) (l : List (Str × Edge)) : Prop where
  nd : (l.map (·.1)).Nodup
  mem : ∀ p ∈ l, p.1 ∈ cl
  len : l.length ≤ 6
  ed : ∀ p ∈ l, Le p.2 ∧ 0 ≤ p.2.1 ∧ p.2 ≠ (0, 0)
structure TestOk (cl : List Str) (l : List (Str × Span)) : Prop where
  nd : (l.map (·.1)).Nodup
  mem : ∀ p ∈ l, p.1 ∈ cl
  len : l.length ≤ 6
  sp : ∀ p ∈ l, Lw p.2
structure StepOk (c : Crd Str) (p : Stp Str) : Prop where
  src : p.src ∈ c.sts.map (·.1)
  tgt : p.tgt ∈ c.sts.map (·.1)
  deed : Sim p.deed
  test : TestOk c.cl p.test
  rnd : p.res.Nodup
  rmem : ∀ s ∈ p.res, s ∈ c.cl
  rlen : p.res.length ≤ 6
structure CardOk (c : Crd Str) : Prop where
  name : Nam c.name
  clnd : c.cl.Nodup
  clnm : ∀ s ∈ c.cl, Nam s
  cl0 : c.cl ≠ []
  cl6 : c.cl.length ≤ 6
  st0 : c.sts ≠ []
  st64 : c.sts.length ≤ 64
  stnd : (c.sts.map (·.1)).Nodup
  stnm : ∀ p ∈ c.sts, Nam p.1
  stok : ∀ p ∈ c.sts, StayOk c.cl p.2
  sp400 : c.steps.length ≤ 50
  spok : ∀ p ∈ c.steps, StepOk c p
  alnd : c.also.Nodup
  alsm : ∀ s ∈ c.also, Sim s
  allen : c.also.length ≤ 10
/-- _wrong_name finds nothing -/
theorem wrong_name_run (k : Nat) (l : List Str) (x : PV) (f : Nat) (st : Sto) (hx : x = .tup (eL l) ∨ x = .tpd (eL l)) (hl : l.length ≤ 500) (nd : l.Nodup) (acc : ∀ s ∈ l, ∀ st, runF tab k f [.str s] st = some (.ok (.bl true) st)) :
    runF tab (k + 1) f__wrong_name [x, .fn f] st = some (.ok .non st) := by
  rw [run_eq (d := d__wrong_name) rfl rfl]
  have hw : ∀ st : Sto, enmL x st = some (.ok (l.zipIdx.map (eNum PV.str), none) st) := fun st => by
    rcases hx with rfl | rfl
    · simp [eL, enm_map]
    · simp [eL, enm_map]
  have hi : isiP x .tuple = some true := by rcases hx with rfl | rfl <;> rfl
  simp [d__wrong_name, b__wrong_name, q_fors, hw, hi]
  refine for_fin (eNum PV.str) (fun l env σ => ∃ ks vs, env = [some x, some (.fn f), some (.ref st.length), none, none] ∧ σ = st ++ [.dct ks vs] ∧ (l.map (·.1)).Nodup ∧ (∀ j ∈ ks, ∀ p ∈ l, j ≠ .inr p.1) ∧ ks.length + l.length ≤ 500 ∧ ∀ p ∈ l, ∀ st, runF tab k f [.str p.1] st = some (.ok (.bl true) st)) _ rfl ⟨[], [], rfl, rfl, ?_, by simp, ?_, ?_⟩ (fun _ _ _ _ => trivial) ?_ ?_
  · rw [zipIdx_fst]; exact nd
  · show 0 + _ ≤ 500
    rw [List.length_zipIdx]
    omega
  · intro p hp
    exact acc _ (List.fst_mem_of_mem_zipIdx hp)
  · rintro env σ ⟨ks, vs, rfl, rfl, -⟩
    first | (rw [fin_rtE rfl]; done) | exact fin_rtE rfl
  · rintro ⟨s, i⟩ l env σ ⟨ks, vs, rfl, rfl, h1, h2, h3, h4⟩
    have e1 : (st ++ [Cell.dct ks vs])[st.length]? = some (.dct ks vs) := by simp
    have e2 := inP_ref s e1
    rw [any_no (fun j m => h2 j m (s, i) (by simp))] at e2
    have e3 := h4 (s, i) (by simp)
    have e4 := fun env => six_dct (env := env) e1 s (.bl true) (by simp at h3; omega)
    refine ⟨.ok .nx [some x, some (.fn f), some (.ref st.length), none, none] (st ++ [.dct (putK (.inr s) ks) (putV (.inr s) (.bl true) ks vs)]), by simp [e2, e3, e4], _, _, rfl, rfl, ?_, ?_, ?_, ?_⟩
    · simp at h1; exact h1.2
    · intro j m p hp
      rcases putK_mem m with m | rfl
      · exact h2 j m p (by simp [hp])
      · intro e
        have e : s = p.1 := Sum.inr.inj e
        exact (List.nodup_cons.mp h1).1 (List.mem_map.mpr ⟨p, hp, e.symm⟩)
    · have := putK_len (.inr s) ks
      simp at h3
      omega
    · exact fun p hp => h4 p (by simp [hp])
end K87
end
section
set_option Elab.async false
set_option linter.all false
set_option maxRecDepth 100000
set_option maxHeartbeats 4000000
/-! W9: the gate's parts are judged. -/
namespace K87
open PySem hiding Env exec
open BR KM
section
variable {α : Type} {enc : α → PV}
@[simp] theorem isi_ePr (p : Str × α) : isiP (ePr enc p) .tuple = some true := rfl
@[simp] theorem len_ePr (st : Sto) (p : Str × α) : bltf st .len [ePr enc p] = some (.int 2) := rfl
@[simp] theorem ixP0 (st : Sto) (p : Str × α) : idxP st (ePr enc p) (.int 0) = some (.str p.1) := rfl
@[simp] theorem ixP1 (st : Sto) (p : Str × α) : idxP st (ePr enc p) (.int 1) = some (enc p.2) := rfl
@[simp] theorem asg_ePr (i j : Nat) (p : Str × α) (env : BR.Env) : asg (.tup (.cons (.nm i) (.cons (.nm j) .nil))) (ePr enc p) env = some ((env.set i (some (.str p.1))).set j (some (enc p.2))) := by
  unfold ePr
  simp
end
theorem peq_eE (a b : Edge) : peq (eE a) (eE b) = some (decide (a = b)) := by
  have e : peq (eE a) (eE b) = some ((a.1 == b.1) && ((a.2 == b.2) && true)) := rfl
  rw [e]
  congr 1
  rw [Bool.eq_iff_iff]
  simp
  exact ⟨fun h => Prod.ext h.1 h.2, fun h => by simp [h]⟩
theorem stay_edge_run (k : Nat) (e : Edge) (st : Sto) (h : Le e) (h0 : 0 ≤ e.1) (hn : e ≠ (0, 0)) : runF tab (k + 3) f__is_stay_edge [eE e] st = some (.ok (.bl true) st) := by
  rw [run_eq (d := d__is_stay_edge) rfl rfl]
  have e1 : peq (eE e) (.tup [.int 0, .int 0]) = some (decide (e = (0, 0))) := peq_eE e (0, 0)
  simp [d__is_stay_edge, b__is_stay_edge, is_edge_run k e st h, h0, e1, hn]
theorem glb17 : tab.glb 17 = some (.fn f_is_simple) := rfl
theorem glb20 : tab.glb 20 = some (.fn f_is_name) := rfl
theorem glb21 : tab.glb 21 = some (.int 6) := rfl
theorem glb22 : tab.glb 22 = some (.int 64) := rfl
theorem glb23 : tab.glb 23 = some (.fn f__is_stay_edge) := rfl
theorem glb24 : tab.glb 24 = some (.int 400) := rfl
theorem glb29 : tab.glb 29 = some (.fn f_is_span) := rfl
theorem pairs_run {α : Type} {enc : α → PV} (k : Nat) (cl : List Str) (l0 : List (Str × α)) (f : Nat) (st : Sto) (hl : l0.length ≤ 500) (nd : (l0.map (·.1)).Nodup) (mem : ∀ p ∈ l0, p.1 ∈ cl) (acc : ∀ p ∈ l0, ∀ st, runF tab k f [enc p.2] st = some (.ok (.bl true) st)) :
    runF tab (k + 1) f__are_clock_pairs [.tpd (eL cl), .tup (l0.map (ePr enc)), .fn f] st = some (.ok (.bl true) st) := by
  rw [run_eq (d := d__are_clock_pairs) rfl rfl]
  simp [d__are_clock_pairs, b__are_clock_pairs, q_fors]
  refine for_fin (ePr enc) (fun l env σ => ∃ ks vs, env = [some (.tpd (eL cl)), some (.tup (l0.map (ePr enc))), some (.fn f), some (.ref st.length), none, none, none] ∧ σ = st ++ [.dct ks vs] ∧ (l.map (·.1)).Nodup ∧ (∀ j ∈ ks, ∀ p ∈ l, j ≠ .inr p.1) ∧ ks.length + l.length ≤ 500 ∧ ∀ p ∈ l, p.1 ∈ cl ∧ ∀ st, runF tab k f [enc p.2] st = some (.ok (.bl true) st)) _ rfl ⟨[], [], rfl, rfl, nd, by simp, by simpa using hl, fun p hp => ⟨mem p hp, acc p hp⟩⟩ (fun _ _ _ _ => trivial) ?_ ?_
  · rintro env σ ⟨ks, vs, rfl, rfl, -⟩
    exact fin_rtE rfl
  · rintro ⟨s, a⟩ l env σ ⟨ks, vs, rfl, rfl, h1, h2, h3, h4⟩
    have e1 : (st ++ [Cell.dct ks vs])[st.length]? = some (.dct ks vs) := by simp
    have e2 := inP_ref s e1
    rw [any_no (fun j m => h2 j m (s, a) (by simp))] at e2
    obtain ⟨e5, e3⟩ := h4 (s, a) (by simp)
    have e4 := fun env => six_dct (env := env) e1 s (.bl true) (by simp at h3; omega)
    simp only [] at e5 e3
    refine ⟨.ok .nx [some (.tpd (eL cl)), some (.tup (l0.map (ePr enc))), some (.fn f), some (.ref st.length), none, none, none] (st ++ [.dct (putK (.inr s) ks) (putV (.inr s) (.bl true) ks vs)]), ?_, _, _, rfl, rfl, ?_, ?_, ?_, ?_⟩
    · simp [e2, e3, e4, e5]
    · exact (List.nodup_cons.mp h1).2
    · intro j m p hp
      rcases putK_mem m with m | rfl
      · exact h2 j m p (by simp [hp])
      · intro e
        have e : s = p.1 := Sum.inr.inj e
        exact (List.nodup_cons.mp h1).1 (List.mem_map.mpr ⟨p, hp, e.symm⟩)
    · have := putK_len (.inr s) ks
      simp at h3
      omega
    · exact fun p hp => h4 p (by simp [hp])
theorem wrong_clock_run (k : Nat) (cl : List Str) (st : Sto) (h0 : cl ≠ []) (h6 : cl.length ≤ 6) (nd : cl.Nodup) (nm : ∀ s ∈ cl, Nam s) : runF tab (k + 4) f__wrong_clock [.tpd (eL cl)] st = some (.ok .non st) := by
  rw [run_eq (d := d__wrong_clock) rfl rfl]
  have e1 : peq (.tpd (eL cl)) (.tup []) = some false := by
    have hd : ∀ l : List Str, (∀ s ∈ l, Nam s) → ∃ ds, PV.dats (eL l) = some ds ∧ ds.length = l.length ∧ PyData.canLayAll0 ds = true ∧ PyData.depthAll ds = 0 := fun l => by
      induction l with
      | nil => exact fun _ => ⟨[], rfl, rfl, rfl, rfl⟩
      | cons a l ih =>
        intro h
        obtain ⟨ds, h1, h2, h3, h4⟩ := ih fun s m => h s (by simp [m])
        have ha := (h a (by simp)).ok
        refine ⟨.str a :: ds, ?_, by simp [h2], ?_, ?_⟩
        · show PV.dats (PV.str a :: eL l) = _
          simp only [PV.dats, PV.dat, h1, Option.bind_some, Option.map_some]
        · simp only [PyData.canLayAll0, PyData.canLay0, ha, h3]
          rfl
        · simp only [PyData.depthAll, PyData.depth, h4]
          rfl
    obtain ⟨ds, h1, h2, h3, h4⟩ := hd cl nm
    have e : PV.dat (.tpd (eL cl)) = some (.tuple ds) := by simp only [PV.dat, h1, Option.map_some]
    have e3 : PV.dat (.tup []) = some (.tuple []) := rfl
    unfold peq
    rw [e, e3]
    simp only [Option.bind_some]
    have s1 : SeqAt.shaped (.tuple ds) = true := by
      unfold SeqAt.shaped
      simp only [PyData.canLay0, PyData.depth, h3, h4]
      rfl
    rw [s1, show SeqAt.shaped (.tuple []) = true from rfl]
    have : PyData.eqv (.tuple ds) (.tuple []) = false := by
      cases ds with
      | nil =>
        exfalso
        apply h0
        exact List.eq_nil_of_length_eq_zero h2.symm
      | cons d ds => simp only [PyData.eqv, PyData.eqvAll]
    rw [this]
    rfl
  have e2 := wrong_name_run (k + 2) cl (.tpd (eL cl)) f_is_name st (.inr rfl) (by omega) nd (fun s m st => is_name_run k s st (nm s m))
  have e3 : ¬ (6 : Int) < cl.length := by omega
  simp [d__wrong_clock, b__wrong_clock, e1, glb20, e2, glb21, e3]
@[simp] theorem isi_eSta (p : Str × List (Str × Edge)) : isiP (eSta p) .tuple = some true := rfl
@[simp] theorem len_eSta (st : Sto) (p : Str × List (Str × Edge)) : bltf st .len [eSta p] = some (.int 2) := rfl
@[simp] theorem asg_eSta (i j : Nat) (p : Str × List (Str × Edge)) (env : BR.Env) : asg (.tup (.cons (.nm i) (.cons (.nm j) .nil))) (eSta p) env = some ((env.set i (some (.str p.1))).set j (some (eStay p.2))) := by
  unfold eSta
  simp
theorem wrong_state_run (k : Nat) (c : Crd Str) (st : Sto) (ok : CardOk c) : runF tab (k + 6) f__wrong_state [.tup (c.sts.map eSta), .tpd (eL c.cl)] st = some (.ok .non st) := by
  rw [run_eq (d := d__wrong_state) rfl rfl]
  have n0 : c.sts.isEmpty = false := by
    cases h : c.sts with
    | nil => exact absurd h ok.st0
    | cons => rfl
  have n1 : ∀ st, tru st (.tup (c.sts.map eSta)) = some true := fun st => by
    show some (!(c.sts.map eSta).isEmpty) = _
    rw [List.isEmpty_map, n0]
    rfl
  simp [d__wrong_state, b__wrong_state, q_fors, n1, enm_map]
  refine for_fin (eNum eSta) (fun l env σ => ∃ ks vs, env = [some (.tup (c.sts.map eSta)), some (.tpd (eL c.cl)), some (.ref st.length), none, none, none, none] ∧ σ = st ++ [.dct ks vs] ∧ (l.map (·.1.1)).Nodup ∧ (∀ j ∈ ks, ∀ p ∈ l, j ≠ .inr p.1.1) ∧ ks.length + l.length ≤ 64 ∧ (∀ p ∈ l, p.2 < 64 ∧ p.1 ∈ c.sts)) _ rfl ⟨[], [], rfl, rfl, ?_, by simp, ?_, ?_⟩ (fun _ _ _ _ => trivial) ?_ ?_
  · have := ok.stnd
    rw [← zipIdx_fst c.sts 0, List.map_map] at this
    exact this
  · show 0 + _ ≤ 64
    rw [List.length_zipIdx]
    have := ok.st64
    omega
  · intro p hp
    have h1 := List.snd_lt_of_mem_zipIdx hp
    have := ok.st64
    exact ⟨by omega, List.fst_mem_of_mem_zipIdx hp⟩
  · rintro env σ ⟨ks, vs, rfl, rfl, -⟩
    exact fin_rtE rfl
  · rintro ⟨⟨s, stay⟩, i⟩ l env σ ⟨ks, vs, rfl, rfl, h1, h2, h3, h4⟩
    have e1 : (st ++ [Cell.dct ks vs])[st.length]? = some (.dct ks vs) := by simp
    have e2 := inP_ref s e1
    rw [any_no (fun j m => h2 j m ((s, stay), i) (by simp))] at e2
    obtain ⟨e5, e3⟩ := h4 ((s, stay), i) (by simp)
    have e4 := fun env => six_dct (env := env) e1 s (.bl true) (by simp at h3; omega)
    simp only [] at e5 e3
    have so := ok.stok _ e3
    have e6 := fun st => is_name_run (k + 3) s st (ok.stnm _ e3)
    have ln : stay.length ≤ 500 := by have : stay.length ≤ 6 := so.len; omega
    have e7 := fun st => pairs_run (enc := eE) (k + 4) c.cl stay f__is_stay_edge st ln so.nd so.mem (fun p m st => stay_edge_run (k + 1) p.2 st (so.ed p m).1 (so.ed p m).2.1 (so.ed p m).2.2)
    have e8 : ¬ (64 : Int) ≤ i := by omega
    refine ⟨.ok .nx [some (.tup (c.sts.map eSta)), some (.tpd (eL c.cl)), some (.ref st.length), none, none, none, none] (st ++ [.dct (putK (.inr s) ks) (putV (.inr s) (.bl true) ks vs)]), ?_, _, _, rfl, rfl, ?_, ?_, ?_, ?_⟩
    · simp [glb22, glb23, e2, e4, e6, e7, e8, eStay]
    · exact (List.nodup_cons.mp h1).2
    · intro j m p hp
      rcases putK_mem m with m | rfl
      · exact h2 j m p (by simp [hp])
      · intro e
        have e : s = p.1.1 := Sum.inr.inj e
        exact (List.nodup_cons.mp h1).1 (List.mem_map.mpr ⟨p, hp, e.symm⟩)
    · have := putK_len (.inr s) ks
      simp at h3
      omega
    · exact fun p hp => h4 p (by simp [hp])
theorem is_step_run (k : Nat) (c : Crd Str) (ok : CardOk c) (p : Stp Str) (st : Sto) (hp : StepOk c p) : runF tab (k + 6) f__is_step [eStp p, .tpd (eL c.cl), .lst (eL (c.sts.map (·.1)))] st = some (.ok (.bl true) st) := by
  rw [run_eq (d := d__is_step) rfl rfl]
  have a1 := hp.src
  have a2 := hp.tgt
  have e1 := is_simple_run (k + 4) p.deed st hp.deed
  have e2 := pairs_run (enc := eSp) (k + 4) c.cl p.test f_is_span st (by have := hp.test.len; omega) hp.test.nd hp.test.mem (fun q m st => is_span_run (k + 1) q.2 st (hp.test.sp q m))
  have e3 := wrong_name_run (k + 4) p.res (.tup (eL p.res)) f_is_name st (.inl rfl) (by have := hp.rlen; omega) hp.rnd (fun s m st => is_name_run (k + 2) s st (ok.clnm s (hp.rmem s m)))
  have w : eStp p = .tup [.str p.src, .str p.deed, .tup (p.test.map (ePr eSp)), .tup (eL p.res), .str p.tgt] := rfl
  rw [w]
  simp [d__is_step, b__is_step, a1, a2, e1, e2, e3, glb29, glb20, x_lc]
  rw [show eL p.res = p.res.map PV.str from rfl, lcL_map PV.str (fun _ => PV.bl true) trivial p.res (fun s m => by simp [hp.rmem s m])]
  have e4 := all_bls st p.res (fun _ => true)
  simp [e4]
theorem wrong_step_run (k : Nat) (c : Crd Str) (st : Sto) (ok : CardOk c) : runF tab (k + 7) f__wrong_step [.tup (c.steps.map eStp), .tpd (eL c.cl), .lst (eL (c.sts.map (·.1)))] st = some (.ok .non st) := by
  rw [run_eq (d := d__wrong_step) rfl rfl]
  simp [d__wrong_step, b__wrong_step, q_fors, enm_map]
  refine for_fin (eNum eStp) (fun l env σ => env = [some (.tup (c.steps.map eStp)), some (.tpd (eL c.cl)), some (.lst (eL (c.sts.map (·.1)))), none, none] ∧ σ = st ∧ ∀ p ∈ l, p.2 < 400 ∧ p.1 ∈ c.steps) _ rfl ⟨rfl, rfl, ?_⟩ (fun _ _ _ _ => trivial) ?_ ?_
  · intro p hp
    have h1 := List.snd_lt_of_mem_zipIdx hp
    have := ok.sp400
    exact ⟨by omega, List.fst_mem_of_mem_zipIdx hp⟩
  · rintro env σ ⟨rfl, rfl, -⟩
    exact fin_rt
  · rintro ⟨p, i⟩ l env σ ⟨rfl, rfl, h⟩
    obtain ⟨h1, h2⟩ := h (p, i) (by simp)
    simp only [] at h1 h2
    have e := is_step_run k c ok p σ (ok.spok p h2)
    have e8 : ¬ (400 : Int) ≤ i := by omega
    refine ⟨.ok .nx [some (.tup (c.steps.map eStp)), some (.tpd (eL c.cl)), some (.lst (eL (c.sts.map (·.1)))), none, none] σ, ?_, rfl, rfl, fun p hp => h p (by simp [hp])⟩
    simp [glb24, e, e8]
theorem check_parts_run (k : Nat) (c : Crd Str) (st : Sto) (ok : CardOk c) : runF tab (k + 8) f__check_parts [.str c.name, .tpd (eL c.cl), .tup (c.sts.map eSta), .tup (c.steps.map eStp), .tup (eL c.also)] st = some (.ok .non st) := by
  rw [run_eq (d := d__check_parts) rfl rfl]
  have e1 := is_name_run (k + 5) c.name st ok.name
  have e2 := wrong_clock_run (k + 3) c.cl st ok.cl0 ok.cl6 ok.clnd ok.clnm
  have e3 := wrong_state_run (k + 1) c st ok
  have e4 := wrong_step_run k c st ok
  have e5 := wrong_name_run (k + 6) c.also (.tup (eL c.also)) f_is_simple st (.inl rfl) (by have := ok.allen; omega) ok.alnd (fun s m st => is_simple_run (k + 5) s st (ok.alsm s m))
  simp [d__check_parts, b__check_parts, e1, e2, e3, x_lc]
  rw [lcL_map eSta (fun p => PV.str p.1) trivial c.sts (fun s m => by simp)]
  have e6 : c.sts.map (fun p => PV.str p.1) = eL (c.sts.map (·.1)) := by simp [eL]
  rw [e6]
  simp [e4, e5, glb17]
end K87
end
section
set_option Elab.async false
set_option linter.all false
set_option maxRecDepth 100000
set_option maxHeartbeats 4000000
/-! W10: the gate is built. -/
namespace K87
open PySem hiding Env exec
open BR KM
theorem lookP_mem {s : Str} : ∀ {l : List Str} {vs : List PV}, s ∈ l → vs.length = l.length → ∃ v, lookP (.inr s) (l.map Sum.inr) vs = some v ∧ v ∈ vs
  | [], _, h, _ => by cases h
  | a :: l, [], _, h2 => by cases h2
  | a :: l, v :: vs, h, h2 => by
    by_cases e : a = s
    · subst e
      exact ⟨v, by simp [lookP], by simp⟩
    · obtain ⟨u, h3, h4⟩ := lookP_mem (s := s) (l := l) (vs := vs) (by simpa [Ne.symm e] using h) (by simpa using h2)
      refine ⟨u, ?_, by simp [h4]⟩
      simp only [List.map_cons, lookP]
      rw [if_neg (by intro z; exact e (Sum.inr.inj z)), h3]
theorem putK_old {s : Str} {l : List Str} (h : s ∈ l) : putK (.inr s) (l.map Sum.inr) = l.map Sum.inr := by
  unfold putK
  rw [if_pos]
  rw [List.any_eq_true]
  exact ⟨_, List.mem_map.mpr ⟨s, h, rfl⟩, by simp⟩
theorem repV_ok {k : L2.Key} {v : PV} : ∀ {ks : List L2.Key} {vs : List PV}, vs.length = ks.length → (repV k v ks vs).length = ks.length ∧ ∀ x ∈ repV k v ks vs, x = v ∨ x ∈ vs
  | [], [], _ => ⟨rfl, by simp [repV]⟩
  | [], _ :: _, h => by cases h
  | _ :: _, [], h => by cases h
  | j :: ks, u :: vs, h => by
    obtain ⟨h1, h2⟩ := repV_ok (k := k) (v := v) (ks := ks) (vs := vs) (by simpa using h)
    refine ⟨by simp [repV, h1], ?_⟩
    intro x hx
    simp only [repV, List.mem_cons] at hx
    rcases hx with rfl | hx
    · split
      · exact .inl rfl
      · exact .inr (by simp)
    · rcases h2 x hx with h | h
      · exact .inl h
      · exact .inr (by simp [h])
theorem putV_old {s : Str} {v : PV} {l : List Str} {vs : List PV} (h : s ∈ l) (hl : vs.length = l.length) : (putV (.inr s) v (l.map Sum.inr) vs).length = l.length ∧ ∀ x ∈ putV (.inr s) v (l.map Sum.inr) vs, x = v ∨ x ∈ vs := by
  unfold putV
  rw [if_pos]
  · have := repV_ok (k := .inr s) (v := v) (ks := l.map Sum.inr) (vs := vs) (by simpa using hl)
    simpa using this
  · rw [List.any_eq_true]
    exact ⟨_, List.mem_map.mpr ⟨s, h, rfl⟩, by simp⟩
theorem idx_dct {st : Sto} {n : Nat} {ks : List L2.Key} {vs : List PV} (h : st[n]? = some (.dct ks vs)) (s : Str) : idxP st (.ref n) (.str s) = lookP (.inr s) ks vs := by
  have e : idxP st (.ref n) (.str s) = idxO st (.ref n) (.str s) := rfl
  have e1 : seqOf st (.ref n) = none := by simp only [seqOf, h]
  have e2 : dctOf st (.ref n) = some (ks, vs) := by simp only [dctOf, h]
  rw [e]
  unfold idxO
  simp only [e1, e2, Option.bind_some, keyOf]
/-! the dict of the places -/
def plK (l : List Str) : List L2.Key := l.map Sum.inr
def plV (l : List Str) : List PV := (List.range l.length).map fun (i : Nat) => .int (i : Int)
def ePl (l : List Str) : PV := .dct (plK l) (plV l)
theorem frzDct {st : Sto} {n : Nat} {ks : List L2.Key} {vs : List PV} {T : Tab} {Φ : Phi} {env : BR.Env} {i : Nat} (h : st[n]? = some (.dct ks vs)) (hi : look env i = some (.ref n)) : ev T Φ (.frz i) env st = some (.ok (.dct ks vs) (st.set n .dead)) := by
  simp only [ev, hi, h]
theorem frzLst {st : Sto} {n : Nat} {xs : List PV} {T : Tab} {Φ : Phi} {env : BR.Env} {i : Nat} (h : st[n]? = some (.lst xs)) (hi : look env i = some (.ref n)) : ev T Φ (.frz i) env st = some (.ok (.lst xs) (st.set n .dead)) := by
  simp only [ev, hi, h]
theorem plV_pu (l : List Str) : PV.pus (plV l) = true := pus_map _ _ fun _ _ => rfl
theorem ePl_pu (l : List Str) : PV.pu (ePl l) = true := plV_pu l
theorem places_run (k : Nat) (l0 : List Str) (x : PV) (st : Sto) (hx : x = .tpd (eL l0) ∨ x = .lst (eL l0)) (hl : l0.length ≤ 100) (nd : l0.Nodup) : runF tab (k + 1) f__places_of [x] st = some (.ok (ePl l0) st) := by
  rw [run_eq (d := d__places_of) rfl rfl]
  have hw : ∀ st : Sto, enmL x st = some (.ok (l0.zipIdx.map (eNum PV.str), none) st) := fun st => by
    rcases hx with rfl | rfl
    · simp [eL, enm_map]
    · simp [eL, enm_map]
  simp [d__places_of, b__places_of, q_fors, hw]
  refine for_fin (eNum PV.str) (fun l env σ => ∃ dn, env = [some x, some (.ref st.length), none, none] ∧ σ = st ++ [.dct (plK dn) (plV dn)] ∧ l = (l0.drop dn.length).zipIdx dn.length ∧ dn = l0.take dn.length) _ rfl ⟨[], rfl, rfl, rfl, rfl⟩ (fun _ _ _ _ => trivial) ?_ ?_
  · rintro env σ ⟨dn, rfl, rfl, h1, h2⟩
    have e : dn = l0 := by
      have h3 := congrArg List.length h1
      simp at h3
      rw [h2, List.take_of_length_le (by omega)]
    subst e
    have e1 : (st ++ [Cell.dct (plK dn) (plV dn)])[st.length]? = some (.dct (plK dn) (plV dn)) := by simp
    rw [frzDct e1 rfl]
    simp
    exact fin_rtE (ePl_pu dn)
  · rintro ⟨s, i⟩ l env σ ⟨dn, rfl, rfl, h1, h2⟩
    have e1 : (st ++ [Cell.dct (plK dn) (plV dn)])[st.length]? = some (.dct (plK dn) (plV dn)) := by simp
    cases hd : l0.drop dn.length with
    | nil => rw [hd] at h1; cases h1
    | cons a r =>
      rw [hd] at h1
      simp only [List.zipIdx_cons, List.cons.injEq, Prod.mk.injEq] at h1
      obtain ⟨⟨rfl, rfl⟩, rfl⟩ := h1
      have hs : l0 = dn ++ s :: r := by
        rw [← hd]
        conv => lhs; rw [← List.take_append_drop dn.length l0]
        rw [← h2]
      have hn : s ∉ dn := by
        rw [hs] at nd
        have := (List.nodup_append.mp nd).2.2
        intro m
        exact this s m s (by simp) rfl
      have h3 : ∀ j ∈ plK dn, j ≠ Sum.inr s := by
        intro j m e
        subst e
        obtain ⟨t, m, e⟩ := List.mem_map.mp m
        exact hn (Sum.inr.inj e ▸ m)
      have hln : (plK dn).length = dn.length := by simp [plK]
      have hl2 : dn.length < 1000 := by
        have := congrArg List.length hs
        simp at this
        omega
      have e4 := fun env => six_dct (env := env) e1 s (.int dn.length) (by rw [hln]; exact hl2)
      have e5 : putK (.inr s) (plK dn) = plK (dn ++ [s]) := by rw [putK_new h3]; simp [plK]
      have e6 : putV (.inr s) (.int dn.length) (plK dn) (plV dn) = plV (dn ++ [s]) := by rw [putV_new h3]; simp [plV, List.range_succ]
      rw [e5, e6] at e4
      refine ⟨.ok .nx [some x, some (.ref st.length), none, none] (st ++ [.dct (plK (dn ++ [s])) (plV (dn ++ [s]))]), ?_, dn ++ [s], rfl, rfl, ?_, ?_⟩
      · simp [e4]
      · rw [hs]
        simp
      · rw [hs, show dn ++ s :: r = (dn ++ [s]) ++ r by simp, List.take_left' rfl]
theorem keys_ok {ks : List L2.Key} (h : ∀ k ∈ ks, ∃ s : Str, k = .inr s ∧ s.length ≤ 100) (hl : ks.length ≤ 1000) {st : Sto} {n : Nat} {vs : List PV} (he : st[n]? = some (.dct ks vs)) : bltf st .list [.ref n] = some (.lst (ks.map keyP)) := by
  have e1 : seqOf st (.ref n) = none := by simp only [seqOf, he]
  have e2 : dctOf st (.ref n) = some (ks, vs) := by simp only [dctOf, he]
  show listP st [.ref n] = _
  unfold listP
  simp only [e1, e2, Option.bind_some]
  rw [if_pos]
  refine ⟨?_, by rw [sizeLine_eq]; omega⟩
  rw [List.all_eq_true]
  intro k m
  obtain ⟨s, rfl, h3⟩ := h k m
  simp [sizeLine_eq]
  omega
theorem sorted_ok {ks : List L2.Key} (h : ∀ k ∈ ks, ∃ s : Str, k = .inr s) (hl : ks.length < 64) (st : Sto) : ∃ ss : List Str, bltf st .sorted [.lst (ks.map keyP)] = some (.lst (ss.map .str)) := by
  have e : ∀ ks : List L2.Key, (∀ k ∈ ks, ∃ s : Str, k = .inr s) → ∃ ss : List Str, strsOf (ks.map keyP) = some ss ∧ ss.length = ks.length := fun ks => by
    induction ks with
    | nil => exact fun _ => ⟨[], rfl, rfl⟩
    | cons k ks ih =>
      intro h
      obtain ⟨s, rfl⟩ := h k (by simp)
      obtain ⟨ss, h1, h2⟩ := ih fun k m => h k (by simp [m])
      exact ⟨s :: ss, by simp [strsOf, keyP, h1], by simp [h2]⟩
  obtain ⟨ss, h1, h2⟩ := e ks h
  refine ⟨sortS ss, ?_⟩
  show sortedP st [.lst (ks.map keyP)] = _
  unfold sortedP
  simp only [lstOf, Option.bind_some, h1]
  rw [if_pos (by omega)]
@[simp] theorem ixT1 (st : Sto) (p : Stp Str) : idxP st (eStp p) (.int 1) = some (.str p.deed) := rfl
@[simp] theorem ixT0 (st : Sto) (p : Stp Str) : idxP st (eStp p) (.int 0) = some (.str p.src) := rfl
@[simp] theorem ixT2 (st : Sto) (p : Stp Str) : idxP st (eStp p) (.int 2) = some (eTest p.test) := rfl
@[simp] theorem ixT3 (st : Sto) (p : Stp Str) : idxP st (eStp p) (.int 3) = some (.tup (eL p.res)) := rfl
@[simp] theorem ixT4 (st : Sto) (p : Stp Str) : idxP st (eStp p) (.int 4) = some (.str p.tgt) := rfl
theorem strs_pu (l : List Str) : PV.pus (l.map .str) = true := pus_map _ _ fun _ _ => rfl
/-- some pure value, and the store as it was -/
def PuS (st : Sto) (v : PV) (st' : Sto) : Prop := PV.pu v = true ∧ st' = st
theorem deeds_in_run (k : Nat) (c : Crd Str) (st : Sto) (ok : CardOk c) : ∃ v st', runF tab (k + 1) f__deeds_in [.tup (c.steps.map eStp), .tup (eL c.also)] st = some (.ok v st') ∧ PuS st v st' := by
  rw [run_eq (d := d__deeds_in) rfl rfl]
  simp [d__deeds_in, b__deeds_in, q_fors]
  refine for_finE eStp (fun l env σ => ∃ ks vs, env = [some (.tup (c.steps.map eStp)), some (.tup (eL c.also)), some (.ref st.length), none, none] ∧ σ = st ++ [.dct ks vs] ∧ (∀ k ∈ ks, ∃ s : Str, k = .inr s ∧ s.length ≤ 100) ∧ ks.length + l.length ≤ 50 ∧ ∀ p ∈ l, p ∈ c.steps) _ rfl ⟨[], [], rfl, rfl, by simp, by have := ok.sp400; simpa using this, fun p h => h⟩ (fun _ _ _ _ => trivial) ?_ ?_
  · rintro env σ ⟨ks, vs, rfl, rfl, h1, h2, -⟩
    simp
    refine for_finE PV.str (fun l env σ => ∃ ks vs, env = [some (.tup (c.steps.map eStp)), some (.tup (eL c.also)), some (.ref st.length), none, none] ∧ σ = st ++ [.dct ks vs] ∧ (∀ k ∈ ks, ∃ s : Str, k = .inr s ∧ s.length ≤ 100) ∧ ks.length + l.length ≤ 60 ∧ ∀ p ∈ l, p ∈ c.also) c.also rfl ⟨ks, vs, rfl, rfl, h1, by have := ok.allen; simp at h2; omega, fun p h => h⟩ (fun _ _ _ _ => trivial) ?_ ?_
    · rintro env σ ⟨ks, vs, rfl, rfl, h1, h2, -⟩
      simp at h2
      have e1 : (st ++ [Cell.dct ks vs])[st.length]? = some (.dct ks vs) := by simp
      obtain ⟨ss, e2⟩ := sorted_ok (fun k m => let ⟨s, h, _⟩ := h1 k m; ⟨s, h⟩) (by omega) (st ++ [Cell.dct ks vs])
      simp [keys_ok h1 (by omega) e1, e2]
      exact ⟨_, _, fin_rtE (by simpa using strs_pu ss), by simpa using strs_pu ss, rfl⟩
    · rintro s l env σ ⟨ks, vs, rfl, rfl, h1, h2, h3⟩
      have e1 : (st ++ [Cell.dct ks vs])[st.length]? = some (.dct ks vs) := by simp
      have e4 := fun env => six_dct (env := env) e1 s (.bl true) (by simp at h2; omega)
      refine ⟨.ok .nx [some (.tup (c.steps.map eStp)), some (.tup (eL c.also)), some (.ref st.length), none, none] (st ++ [.dct (putK (.inr s) ks) (putV (.inr s) (.bl true) ks vs)]), by simp [e4], _, _, rfl, rfl, ?_, ?_, fun p hp => h3 p (by simp [hp])⟩
      · intro k m
        rcases putK_mem m with m | rfl
        · exact h1 k m
        · exact ⟨s, rfl, by have := (ok.alsm s (h3 s (by simp))).len; omega⟩
      · have := putK_len (.inr s) ks
        simp at h2
        omega
  · rintro p l env σ ⟨ks, vs, rfl, rfl, h1, h2, h3⟩
    have e1 : (st ++ [Cell.dct ks vs])[st.length]? = some (.dct ks vs) := by simp
    have e4 := fun env => six_dct (env := env) e1 p.deed (.bl true) (by simp at h2; omega)
    refine ⟨.ok .nx [some (.tup (c.steps.map eStp)), some (.tup (eL c.also)), some (.ref st.length), none, none] (st ++ [.dct (putK (.inr p.deed) ks) (putV (.inr p.deed) (.bl true) ks vs)]), by simp [e4], _, _, rfl, rfl, ?_, ?_, fun p hp => h3 p (by simp [hp])⟩
    · intro k m
      rcases putK_mem m with m | rfl
      · exact h1 k m
      · exact ⟨p.deed, rfl, by have := (ok.spok p (h3 p (by simp))).deed.len; omega⟩
    · have := putK_len (.inr p.deed) ks
      simp at h2
      omega
end K87
end
section
set_option Elab.async false
set_option linter.all false
set_option maxRecDepth 100000
set_option maxHeartbeats 4000000
/-! W11: the gate is built, second part. -/
namespace K87
open PySem hiding Env exec
open BR KM
@[simp] theorem asg_ePrS (i j m : Nat) (p : Str × Span) (env : BR.Env) : asg (.tup (.cons (.nm i) (.cons (.tup (.cons (.nm j) (.cons (.nm m) .nil))) .nil))) (ePr eSp p) env = some (((env.set i (some (.str p.1))).set j (some (eE p.2.1))).set m (some (eC p.2.2))) := by
  unfold ePr
  simp
@[simp] theorem walked_test (st : Sto) (t : List (Str × Span)) : walked st (eTest t) = some (t.map (ePr eSp), none) := rfl
@[simp] theorem walked_stay (st : Sto) (t : List (Str × Edge)) : walked st (eStay t) = some (t.map (ePr eE), none) := rfl
/-- a dict of whole numbers at the clocks -/
def CeD (st : Sto) (cl : List Str) (σ : Sto) : Prop := ∃ vs, σ = st ++ [.dct (plK cl) vs] ∧ vs.length = cl.length ∧ ∀ v ∈ vs, ∃ i, v = .int i
theorem CeD.get {st σ : Sto} {cl : List Str} (h : CeD st cl σ) {s : Str} (m : s ∈ cl) : ∃ i, idxP σ (.ref st.length) (.str s) = some (.int i) := by
  obtain ⟨vs, rfl, hl, hv⟩ := h
  have e1 : (st ++ [Cell.dct (plK cl) vs])[st.length]? = some (.dct (plK cl) vs) := by simp
  obtain ⟨v, h1, h2⟩ := lookP_mem m hl
  obtain ⟨i, rfl⟩ := hv v h2
  exact ⟨i, (idx_dct e1 s).trans h1⟩
theorem CeD.put {st σ : Sto} {cl : List Str} (h : CeD st cl σ) {s : Str} (m : s ∈ cl) (i : Int) (hc : cl.length ≤ 6) : ∃ σ', CeD st cl σ' ∧ ∀ env, sixP env σ (.ref st.length) (.str s) (.int i) = some (.ok .nx env σ') := by
  obtain ⟨vs, rfl, hl, hv⟩ := h
  have e1 : (st ++ [Cell.dct (plK cl) vs])[st.length]? = some (.dct (plK cl) vs) := by simp
  have e4 := fun env => six_dct (env := env) e1 s (.int i) (by simp [plK]; omega)
  have e5 : putK (.inr s) (plK cl) = plK cl := putK_old m
  obtain ⟨h1, h2⟩ := putV_old (v := .int i) m hl
  refine ⟨_, ⟨_, rfl, h1, ?_⟩, fun env => by rw [e4 env, e5, set_end1]; rfl⟩
  intro v hv2
  rcases h2 v hv2 with rfl | h
  · exact ⟨_, rfl⟩
  · exact hv v h
theorem ceilings_run (k : Nat) (c : Crd Str) (st : Sto) (ok : CardOk c) : ∃ v st', runF tab (k + 1) f__ceilings_in [.tpd (eL c.cl), .tup (c.sts.map eSta), .tup (c.steps.map eStp)] st = some (.ok v st') ∧ PuS st v st' := by
  rw [run_eq (d := d__ceilings_in) rfl rfl]
  refine finE_of ?_
  simp [d__ceilings_in, b__ceilings_in, q_fors]
  have h6 := ok.cl6
  let en (a : Option PV) : BR.Env := [some (.tpd (eL c.cl)), some (.tup (c.sts.map eSta)), some (.tup (c.steps.map eStp)), some (.ref st.length), a, none, none, none, none, none, none, none]
  refine for_Q PV.str (fun l env σ => ∃ dn, env = en none ∧ CeD st dn σ ∧ c.cl = dn ++ l) _ rfl ⟨[], rfl, ⟨[], rfl, rfl, by simp⟩, rfl⟩ (fun _ _ _ _ => trivial) ?_ ?_
  · rintro env σ ⟨dn, rfl, h, e⟩
    rw [List.append_nil] at e
    subst e
    simp [en]
    refine for_Q eSta (fun l env σ => env = en none ∧ CeD st c.cl σ ∧ ∀ p ∈ l, p ∈ c.sts) _ rfl ⟨rfl, h, fun p m => m⟩ (fun _ _ _ _ => trivial) ?_ ?_
    · rintro env σ ⟨rfl, h, -⟩
      simp [en]
      refine for_Q eStp (fun l env σ => env = en none ∧ CeD st c.cl σ ∧ ∀ p ∈ l, p ∈ c.steps) _ rfl ⟨rfl, h, fun p m => m⟩ (fun _ _ _ _ => trivial) ?_ ?_
      · rintro env σ ⟨rfl, h, -⟩
        simp [en, x_lc]
        have e : ∃ xs, PV.pus xs = true ∧ lcL (gok none) (fun v st' => bnd (lif (idxP st' (.ref st.length) v) st') fun x st => some (Re.ok (some x) st)) (eL c.cl) σ = some (.ok xs σ) := by
          refine ⟨c.cl.map fun s => (idxP σ (.ref st.length) (.str s)).getD .non, pus_map _ _ fun s m => ?_, lcL_map PV.str _ trivial c.cl fun s m => ?_⟩
          · obtain ⟨i, e⟩ := h.get m
            simp [e]
          · obtain ⟨i, e⟩ := h.get m
            simp [e]
        obtain ⟨xs, px, e⟩ := e
        rw [e]
        obtain ⟨vs, rfl, -⟩ := h
        simp
        exact finE_E (by simpa using px) ⟨by simpa using px, rfl⟩
      · rintro p l env σ ⟨rfl, h, hp⟩ Q hn hr
        simp [en]
        have tk := (ok.spok p (hp p (by simp))).test
        refine for_Q (ePr eSp) (fun l env σ => env = (en none).set 8 (some (eStp p)) ∧ CeD st c.cl σ ∧ ∀ q ∈ l, q.1 ∈ c.cl) _ rfl ⟨rfl, h, tk.mem⟩ (fun _ _ _ _ => trivial) ?_ ?_
        · rintro env σ ⟨rfl, h, -⟩
          simp [en]
          exact hn _ _ ⟨rfl, h, fun p m => hp p (by simp [m])⟩
        · rintro ⟨s, ⟨lo, hi⟩⟩ l env σ ⟨rfl, h, hq⟩ Q hn hr
          have m : s ∈ c.cl := hq (s, (lo, hi)) (by simp)
          obtain ⟨i, e⟩ := h.get m
          cases hi with
          | none =>
            obtain ⟨σ', h', e'⟩ := h.put m (if i < lo.1 then lo.1 else i) h6
            simp [en, e, e']
            exact hn _ _ ⟨rfl, h', fun q m => hq q (by simp [m])⟩
          | some hi =>
            obtain ⟨σ', h', e'⟩ := h.put m (if i < hi.1 then hi.1 else i) h6
            simp [en, e, e']
            exact hn _ _ ⟨rfl, h', fun q m => hq q (by simp [m])⟩
    · rintro ⟨s, stay⟩ l env σ ⟨rfl, h, hp⟩ Q hn hr
      simp [en]
      have tk := ok.stok _ (hp (s, stay) (by simp))
      refine for_Q (ePr eE) (fun l env σ => env = ((en none).set 5 (some (.str s))).set 6 (some (eStay stay)) ∧ CeD st c.cl σ ∧ ∀ q ∈ l, q.1 ∈ c.cl) _ rfl ⟨rfl, h, tk.mem⟩ (fun _ _ _ _ => trivial) ?_ ?_
      · rintro env σ ⟨rfl, h, -⟩
        simp [en]
        exact hn _ _ ⟨rfl, h, fun p m => hp p (by simp [m])⟩
      · rintro ⟨s, ed⟩ l env σ ⟨rfl, h, hq⟩ Q hn hr
        have m : s ∈ c.cl := hq (s, ed) (by simp)
        obtain ⟨i, e⟩ := h.get m
        obtain ⟨σ', h', e'⟩ := h.put m (if i < ed.1 then ed.1 else i) h6
        simp [en, e, e']
        exact hn _ _ ⟨rfl, h', fun q m => hq q (by simp [m])⟩
  · rintro s l env σ ⟨dn, rfl, h, e⟩ Q hn hr
    obtain ⟨vs, rfl, hl, hv⟩ := h
    have e1 : (st ++ [Cell.dct (plK dn) vs])[st.length]? = some (.dct (plK dn) vs) := by simp
    have hln : (plK dn).length = dn.length := by simp [plK]
    have nd := ok.clnd
    rw [e] at nd h6
    simp at h6
    have e4 := fun env => six_dct (env := env) e1 s (.int 0) (by omega)
    have h3 : ∀ j ∈ plK dn, j ≠ Sum.inr s := by
      intro j m e
      subst e
      obtain ⟨t, m2, e⟩ := List.mem_map.mp m
      have := Sum.inr.inj e
      subst this
      exact (List.nodup_append.mp nd).2.2 t m2 t (by simp) rfl
    simp [en, e4]
    refine hn _ _ ⟨dn ++ [s], rfl, ⟨vs ++ [.int 0], ?_, by simp [hl], ?_⟩, by simp [e]⟩
    · rw [putK_new h3, putV_new h3]
      simp [plK]
    · intro v m
      rcases List.mem_append.mp m with m | m
      · exact hv v m
      · rw [List.mem_singleton] at m
        exact ⟨0, m⟩
/-- a dict of lists at the states -/
def LeD (st : Sto) (ns : List Str) (b : Nat) (σ : Sto) : Prop := ∃ cs : List Cell, σ = st ++ .dct (plK ns) ((List.range' 0 ns.length).map fun i => .ref (st.length + 1 + i)) :: cs ∧ cs.length = ns.length ∧ ∀ c ∈ cs, ∃ xs, c = .lst xs ∧ PV.pus xs = true ∧ xs.length ≤ b
theorem lookP_at {s : Str} {f : Nat → PV} : ∀ {l : List Str} {n : Nat}, s ∈ l → ∃ i, i < l.length ∧ lookP (.inr s) (plK l) ((List.range' n l.length).map f) = some (f (n + i))
  | [], _, h => by cases h
  | a :: l, n, h => by
    by_cases e : a = s
    · subst e
      exact ⟨0, by simp, by simp [lookP, plK, List.range'_succ]⟩
    · obtain ⟨i, h3, h4⟩ := lookP_at (s := s) (f := f) (l := l) (n := n + 1) (by simpa [Ne.symm e] using h)
      refine ⟨i + 1, by simp; omega, ?_⟩
      simp only [plK, List.map_cons, List.length_cons, List.range'_succ, lookP]
      rw [if_neg (by intro z; exact e (Sum.inr.inj z))]
      have := h4
      simp only [plK] at this
      rw [this]
      congr 2
      omega
theorem app_at (st : Sto) (c : Cell) (cs : List Cell) (i : Nat) : (st ++ c :: cs)[st.length + 1 + i]? = cs[i]? := by
  rw [List.getElem?_append_right (by omega)]
  rw [show st.length + 1 + i - st.length = i + 1 by omega, List.getElem?_cons_succ]
theorem set_at (st : Sto) (c d : Cell) (cs : List Cell) (i : Nat) : (st ++ c :: cs).set (st.length + 1 + i) d = st ++ c :: cs.set i d := by
  rw [List.set_append_right _ _ (by omega)]
  rw [show st.length + 1 + i - st.length = i + 1 by omega, List.set_cons_succ]
theorem LeD.get {st σ : Sto} {ns : List Str} {b : Nat} (h : LeD st ns b σ) {s : Str} (m : s ∈ ns) : ∃ n xs, idxP σ (.ref st.length) (.str s) = some (.ref n) ∧ σ[n]? = some (.lst xs) ∧ PV.pus xs = true ∧ xs.length ≤ b ∧ ∀ j : Nat, LeD st ns (b + 1) (σ.set n (.lst (xs ++ [.int j]))) := by
  obtain ⟨cs, rfl, hl, hc⟩ := h
  obtain ⟨i, h1, h2⟩ := lookP_at (f := fun i => PV.ref (st.length + 1 + i)) (n := 0) m
  have e := idx_dct (get_end st (.dct (plK ns) ((List.range' 0 ns.length).map fun i => .ref (st.length + 1 + i))) cs) s
  obtain ⟨c, hci⟩ : ∃ c, cs[i]? = some c := ⟨cs[i]'(by omega), List.getElem?_eq_getElem (by omega)⟩
  obtain ⟨xs, rfl, px, lx⟩ := hc c (List.mem_of_getElem? hci)
  refine ⟨st.length + 1 + i, xs, ?_, (app_at st _ cs i).trans hci, px, lx, fun j => ⟨cs.set i (.lst (xs ++ [.int j])), set_at st _ _ cs i, by simp [hl], ?_⟩⟩
  · rw [e, h2]
    simp
  · intro c m
    rcases List.mem_or_eq_of_mem_set m with m | rfl
    · obtain ⟨ys, h1, h2, h3⟩ := hc c m
      exact ⟨ys, h1, h2, by omega⟩
    · exact ⟨_, rfl, by simp [pus_append, px], by simp; omega⟩
theorem tuple_ref {st : Sto} {n : Nat} {xs : List PV} (h : st[n]? = some (.lst xs)) : bltf st .tuple [.ref n] = some (.tup xs) := by
  show tupleP st [.ref n] = _
  simp only [tupleP, lstOf, h, Option.map_some]
theorem by_source_run (k : Nat) (c : Crd Str) (st : Sto) (ok : CardOk c) : ∃ v st', runF tab (k + 1) f__steps_by_source [.tup (c.sts.map eSta), .tup (c.steps.map eStp)] st = some (.ok v st') ∧ PuS st v st' := by
  rw [run_eq (d := d__steps_by_source) rfl rfl]
  refine finE_of ?_
  simp [d__steps_by_source, b__steps_by_source, q_fors]
  let en : BR.Env := [some (.tup (c.sts.map eSta)), some (.tup (c.steps.map eStp)), some (.ref st.length), none, none, none, none]
  refine for_Q eSta (fun l env σ => ∃ dn, env = en ∧ LeD st dn 0 σ ∧ c.sts.map (·.1) = dn ++ l.map (·.1)) _ rfl ⟨[], rfl, ⟨[], rfl, rfl, by simp⟩, rfl⟩ (fun _ _ _ _ => trivial) ?_ ?_
  · rintro env σ ⟨dn, rfl, h, e⟩
    simp at e
    simp [en, enm_map]
    refine for_Q (eNum eStp) (fun l env σ => env = en ∧ LeD st dn (50 - l.length) σ ∧ l.length ≤ 50 ∧ ∀ p ∈ l, p.1 ∈ c.steps) _ rfl ⟨rfl, ?_, by simpa using ok.sp400, fun p m => List.fst_mem_of_mem_zipIdx m⟩ (fun _ _ _ _ => trivial) ?_ ?_
    · obtain ⟨cs, h1, h2, h3⟩ := h
      refine ⟨cs, h1, h2, fun c m => ?_⟩
      obtain ⟨ys, h4, h5, h6⟩ := h3 c m
      exact ⟨ys, h4, h5, by omega⟩
    · rintro env σ ⟨rfl, h, -⟩
      simp [en, x_lc]
      have g : ∀ p ∈ c.sts, ∃ n xs, idxP σ (.ref st.length) (.str p.1) = some (.ref n) ∧ bltf σ .tuple [.ref n] = some (.tup xs) ∧ PV.pus xs = true := fun p m => by
        obtain ⟨n, xs, e1, e2, e3, -⟩ := h.get (s := p.1) (by rw [← e]; exact List.mem_map.mpr ⟨p, m, rfl⟩)
        exact ⟨n, xs, e1, tuple_ref e2, e3⟩
      rw [lcL_map eSta (fun p => (bltf σ .tuple [(idxP σ (.ref st.length) (.str p.1)).getD .non]).getD .non) trivial c.sts (fun p m => by
        obtain ⟨n, xs, e1, e2, e3⟩ := g p m
        simp [e1, e2])]
      obtain ⟨cs, rfl, -⟩ := h
      simp
      refine finE_E ?_ ⟨?_, rfl⟩
      all_goals
        rw [pu_tup]
        refine pus_map _ _ fun p m => ?_
        obtain ⟨n, xs, e1, e2, e3⟩ := g p m
        simp [e1, e2, e3]
    · rintro ⟨p, i⟩ l env σ ⟨rfl, h, hl, hp⟩ Q hn hr
      have m := (ok.spok p (hp (p, i) (by simp))).src
      rw [e] at m
      obtain ⟨n, xs, e1, e2, e3, e4, e5⟩ := h.get m
      simp at hl e4
      simp [en, e1, e2, isCL, appP]
      rw [if_pos (by rw [sizeLine_eq]; omega)]
      simp
      refine hn _ _ ⟨rfl, ?_, by omega, fun q m => hp q (by simp [m])⟩
      have := e5 i
      simp only [List.length_cons] at this
      rwa [show 50 - (l.length + 1) + 1 = 50 - l.length by omega] at this
  · rintro ⟨s, stay⟩ l env σ ⟨dn, rfl, h, e⟩ Q hn hr
    obtain ⟨cs, rfl, hl, hc⟩ := h
    have nd := ok.stnd
    rw [e] at nd
    have n64 : dn.length < 64 := by
      have := congrArg List.length e
      simp at this
      have := ok.st64
      omega
    have h3 : ∀ j ∈ plK dn, j ≠ Sum.inr s := by
      intro j m e
      subst e
      obtain ⟨t, m2, e⟩ := List.mem_map.mp m
      have := Sum.inr.inj e
      subst this
      exact (List.nodup_append.mp nd).2.2 t m2 t (by simp) rfl
    have e4 := fun env => six_dct (env := env) (get_end st (.dct (plK dn) ((List.range' 0 dn.length).map fun i => .ref (st.length + 1 + i))) (cs ++ [.lst []])) s (.ref (st.length + (cs.length + 1))) (by simp [plK]; omega)
    simp [en, e4]
    refine hn _ _ ⟨dn ++ [s], rfl, ⟨cs ++ [.lst []], ?_, by simp [hl], ?_⟩, by simp [e]⟩
    · rw [putK_new h3, putV_new h3]
      simp [plK, List.range'_concat, hl]
      omega
    · intro c m
      rcases List.mem_append.mp m with m | m
      · exact hc c m
      · rw [List.mem_singleton] at m
        exact ⟨[], m, rfl, by simp⟩
end K87
end
section
set_option Elab.async false
set_option linter.all false
set_option maxRecDepth 100000
set_option maxHeartbeats 4000000
/-! W12: the gate. -/
namespace K87
open PySem hiding Env exec
open BR KM
def gF : List Nat := [3, 4, 5, 6, 7, 8, 9, 10, 11, 12]
def eGt (c : Crd Str) (d1 d2 d3 : PV) : PV := .obj 0 gF [.str c.name, .tpd (eL c.cl), .tup (c.sts.map eSta), .tup (c.steps.map eStp), .tup (eL c.also), d1, d2, ePl c.cl, ePl (c.sts.map (·.1)), d3]
def IsG (c : Crd Str) (g : PV) : Prop := ∃ d1 d2 d3, g = eGt c d1 d2 d3
theorem sfl_end {att : Nat → Nat → Bool} {env : BR.Env} {st : Sto} {fs : List Nat} {vs : List PV} {f : Nat} {v : PV} (h : att 0 f = true) (hl : fs.length < 1000) :
    sflP att f env (st ++ [.obj 0 fs vs]) (.ref st.length) v = some (.ok .nx env (st ++ [.obj 0 (putFs f fs) (putFv f v fs vs)])) := by
  have e : (st ++ [Cell.obj 0 fs vs])[st.length]? = some (.obj 0 fs vs) := by simp
  unfold sflP
  simp only [e]
  rw [if_pos ⟨hl, h⟩, set_end1]
theorem stay_pu (l : List (Str × Edge)) : PV.pu (eStay l) = true := by
  unfold eStay
  rw [pu_tup]
  exact pus_map _ _ fun _ _ => rfl
theorem span_pu (s : Span) : PV.pu (eSp s) = true := by
  obtain ⟨l, h⟩ := s
  cases h <;> rfl
theorem test_pu (l : List (Str × Span)) : PV.pu (eTest l) = true := by
  unfold eTest
  rw [pu_tup]
  refine pus_map _ _ fun p _ => ?_
  unfold ePr
  simp [span_pu]
theorem eL_pu (l : List Str) : PV.pus (eL l) = true := strs_pu l
theorem stp_pu (p : Stp Str) : PV.pu (eStp p) = true := by
  unfold eStp
  simp [test_pu, eL_pu]
theorem sta_pu (p : Str × List (Str × Edge)) : PV.pu (eSta p) = true := by
  unfold eSta
  simp [stay_pu]
theorem init_run (k : Nat) (c : Crd Str) (st : Sto) (ok : CardOk c) : ∃ d1 d2 d3, PV.pu d1 = true ∧ PV.pu d2 = true ∧ PV.pu d3 = true ∧
    runF tab (k + 9) f_Gate_init [.ref st.length, .str c.name, .tpd (eL c.cl), .tup (c.sts.map eSta), .tup (c.steps.map eStp), .tup (eL c.also)] (st ++ [.obj 0 [] []]) = some (.ok .non (st ++ [.obj 0 gF [.str c.name, .tpd (eL c.cl), .tup (c.sts.map eSta), .tup (c.steps.map eStp), .tup (eL c.also), d1, d2, ePl c.cl, ePl (c.sts.map (·.1)), d3]])) := by
  obtain ⟨d1, s1, h1, p1, rfl⟩ := deeds_in_run (k + 7) c (st ++ [.obj 0 [3, 4, 5, 6, 7] [.str c.name, .tpd (eL c.cl), .tup (c.sts.map eSta), .tup (c.steps.map eStp), .tup (eL c.also)]]) ok
  obtain ⟨d2, s2, h2, p2, rfl⟩ := ceilings_run (k + 7) c (st ++ [.obj 0 [3, 4, 5, 6, 7, 8] [.str c.name, .tpd (eL c.cl), .tup (c.sts.map eSta), .tup (c.steps.map eStp), .tup (eL c.also), d1]]) ok
  obtain ⟨d3, s3, h3, p3, rfl⟩ := by_source_run (k + 7) c (st ++ [.obj 0 [3, 4, 5, 6, 7, 8, 9, 10, 11] [.str c.name, .tpd (eL c.cl), .tup (c.sts.map eSta), .tup (c.steps.map eStp), .tup (eL c.also), d1, d2, ePl c.cl, ePl (c.sts.map (·.1))]]) ok
  refine ⟨d1, d2, d3, p1, p2, p3, ?_⟩
  rw [run_eq (d := d_Gate_init) rfl rfl]
  have e1 := check_parts_run k c (st ++ [.obj 0 [] []]) ok
  have e4 := fun σ => places_run (k + 7) c.cl (.tpd (eL c.cl)) σ (.inl rfl) (by have := ok.cl6; omega) ok.clnd
  have e5 := fun σ => places_run (k + 7) (c.sts.map (·.1)) (.lst (eL (c.sts.map (·.1)))) σ (.inr rfl) (by have := ok.st64; simp; omega) ok.stnd
  have at_ : ∀ f, gF.contains f = true → tab.att 0 f = true := fun f h => h
  have t3 := at_ 3 rfl
  have t4 := at_ 4 rfl
  have t5 := at_ 5 rfl
  have t6 := at_ 6 rfl
  have t7 := at_ 7 rfl
  have t8 := at_ 8 rfl
  have t9 := at_ 9 rfl
  have t10 := at_ 10 rfl
  have t11 := at_ 11 rfl
  have t12 := at_ 12 rfl
  have e6 : ∀ (σ : Sto) (f : PV → Sto → Mo (Option PV)), (∀ p ∈ c.sts, f (eSta p) σ = some (.ok (some (.str p.1)) σ)) → lcL (gok none) f (c.sts.map eSta) σ = some (.ok (eL (c.sts.map (·.1))) σ) := fun σ f hf => by
    rw [lcL_map eSta (fun p => PV.str p.1) trivial c.sts hf]
    simp [eL]
  simp [d_Gate_init, b_Gate_init, e1, e4, h1, h2, sfl_end, t3, t4, t5, t6, t7, t8, t9, t10, t11, putFs, putFv, x_lc]
  rw [e6 _ _ (fun p m => by simp)]
  simp [e5, h3, sfl_end, t11, t12, putFs, putFv]
  exact fin_nxL (by simp)
@[simp] theorem ixC0 (st : Sto) (c : Crd Str) : idxP st (eCrd c) (.int 0) = some (.str c.name) := rfl
@[simp] theorem ixC1 (st : Sto) (c : Crd Str) : idxP st (eCrd c) (.int 1) = some (.tpd (eL c.cl)) := rfl
@[simp] theorem ixC2 (st : Sto) (c : Crd Str) : idxP st (eCrd c) (.int 2) = some (.tup (c.sts.map eSta)) := rfl
@[simp] theorem ixC3 (st : Sto) (c : Crd Str) : idxP st (eCrd c) (.int 3) = some (.tup (c.steps.map eStp)) := rfl
@[simp] theorem ixC4 (st : Sto) (c : Crd Str) : idxP st (eCrd c) (.int 4) = some (.tup (eL c.also)) := rfl
theorem mk_ok {Φ : Phi} {vs us : List PV} {fs : List Nat} {st : Sto} (h : Φ f_Gate_init (.ref st.length :: vs) (st ++ [.obj 0 [] []]) = some (.ok .non (st ++ [.obj 0 fs us]))) (hp : PV.pus us = true) {es : Es} {env : BR.Env} (he : evs tab Φ es env st = some (.ok vs st)) :
    ev tab Φ (.mk 0 es) env st = some (.ok (.obj 0 fs us) st) := by
  have e : ev tab Φ (.mk 0 es) env st = bnd (evs tab Φ es env st) fun vs st => match tab.ini 0 with
    | some f => bnd (Φ f (.ref st.length :: vs) (st ++ [.obj 0 [] []])) fun r st' => match r, st'[st.length]? with
      | .non, some (.obj c' fs us) => if tab.still 0 = true then (if PV.pus us = true ∧ cuts st st' then ret (.obj c' fs us) (st'.take st.length) else none) else ret (.ref st.length) st'
      | _, _ => none
    | none => none := by
    simp only [ev] <;> rfl
  rw [e, he]
  have ei : tab.ini 0 = some f_Gate_init := rfl
  have es : tab.still 0 = true := rfl
  have eg : (st ++ [Cell.obj 0 fs us])[st.length]? = some (.obj 0 fs us) := by simp
  simp only [bnd_ok, ei, h, eg, es, if_true]
  rw [if_pos ⟨hp, cuts_ext _ _⟩]
  simp
theorem crd_fields (c : Crd Str) {d1 d2 d3 : PV} (p1 : PV.pu d1 = true) (p2 : PV.pu d2 = true) (p3 : PV.pu d3 = true) : PV.pus [.str c.name, .tpd (eL c.cl), .tup (c.sts.map eSta), .tup (c.steps.map eStp), .tup (eL c.also), d1, d2, ePl c.cl, ePl (c.sts.map (·.1)), d3] = true := by
  have a1 : PV.pus (c.sts.map eSta) = true := pus_map _ _ fun p _ => sta_pu p
  have a2 : PV.pus (c.steps.map eStp) = true := pus_map _ _ fun p _ => stp_pu p
  simp [eL_pu, a1, a2, p1, p2, p3, ePl_pu]
theorem gate_run (k : Nat) (c : Crd Str) (st : Sto) (ok : CardOk c) : ∃ g, IsG c g ∧ PV.pu g = true ∧ runF tab (k + 10) f__law_gate [eCrd c] st = some (.ok g st) := by
  obtain ⟨d1, d2, d3, p1, p2, p3, h⟩ := init_run k c st ok
  refine ⟨eGt c d1 d2 d3, ⟨d1, d2, d3, rfl⟩, crd_fields c p1 p2 p3, ?_⟩
  rw [run_eq (d := d__law_gate) rfl rfl]
  simp only [d__law_gate, b__law_gate, q_seq, q_ret]
  rw [mk_ok h (crd_fields c p1 p2 p3) (by simp)]
  simp
  rfl
end K87
end
section
set_option Elab.async false
set_option linter.all false
set_option maxRecDepth 100000
set_option maxHeartbeats 4000000
/-! W13: stays and tests. -/
namespace K87
open PySem hiding Env exec
open BR KM
section
variable {c : Crd Str} {d1 d2 d3 : PV} {st : Sto}
@[simp] theorem fldG4 : ((objOf st (eGt c d1 d2 d3)).bind fun o => if tab.att o.1 4 = true then fldP 4 o.2.1 o.2.2 else none) = some (.tpd (eL c.cl)) := rfl
@[simp] theorem fldG5 : ((objOf st (eGt c d1 d2 d3)).bind fun o => if tab.att o.1 5 = true then fldP 5 o.2.1 o.2.2 else none) = some (.tup (c.sts.map eSta)) := rfl
@[simp] theorem fldG6 : ((objOf st (eGt c d1 d2 d3)).bind fun o => if tab.att o.1 6 = true then fldP 6 o.2.1 o.2.2 else none) = some (.tup (c.steps.map eStp)) := rfl
@[simp] theorem fldG10 : ((objOf st (eGt c d1 d2 d3)).bind fun o => if tab.att o.1 10 = true then fldP 10 o.2.1 o.2.2 else none) = some (ePl c.cl) := rfl
@[simp] theorem fldG11 : ((objOf st (eGt c d1 d2 d3)).bind fun o => if tab.att o.1 11 = true then fldP 11 o.2.1 o.2.2 else none) = some (ePl (c.sts.map (·.1))) := rfl
@[simp] theorem methG14 {Φ : Phi} {es : Mo (List PV)} : methP tab Φ 14 (eGt c d1 d2 d3) (objOf st (eGt c d1 d2 d3)) es = bnd es fun vs st => Φ f_Gate_clock_number (eGt c d1 d2 d3 :: vs) st := rfl
@[simp] theorem methG18 {Φ : Phi} {es : Mo (List PV)} : methP tab Φ 18 (eGt c d1 d2 d3) (objOf st (eGt c d1 d2 d3)) es = bnd es fun vs st => Φ f_Gate_stay_of (eGt c d1 d2 d3 :: vs) st := rfl
@[simp] theorem methG28 {Φ : Phi} {es : Mo (List PV)} : methP tab Φ 28 (eGt c d1 d2 d3) (objOf st (eGt c d1 d2 d3)) es = bnd es fun vs st => Φ f_Gate_state_index (eGt c d1 d2 d3 :: vs) st := rfl
end
theorem idxOf_ne {a s : Str} {l : List Str} (h : ¬ a = s) : (a :: l).idxOf s = l.idxOf s + 1 := by
  rw [List.idxOf_cons, show (a == s) = false by simpa using h]
  rfl
theorem lookP_pl {s : Str} : ∀ {l : List Str} {n : Nat}, s ∈ l → lookP (.inr s) (plK l) ((List.range' n l.length).map fun (i : Nat) => PV.int (i : Int)) = some (.int ((n + l.idxOf s : Nat) : Int))
  | [], _, h => by cases h
  | a :: l, n, h => by
    simp only [plK, List.map_cons, List.length_cons, List.range'_succ, lookP]
    by_cases e : a = s
    · subst e
      simp
    · rw [if_neg (by intro z; exact e (Sum.inr.inj z))]
      have := lookP_pl (s := s) (l := l) (n := n + 1) (by simpa [Ne.symm e] using h)
      simp only [plK] at this
      rw [this, idxOf_ne e]
      congr 2
      omega
theorem idx_ePl {s : Str} {l : List Str} (h : s ∈ l) (st : Sto) : idxP st (ePl l) (.str s) = some (.int (l.idxOf s : Nat)) := by
  have e : idxP st (ePl l) (.str s) = lookP (.inr s) (plK l) (plV l) := rfl
  rw [e]
  have := lookP_pl (n := 0) h
  rw [← List.range_eq_range'] at this
  unfold plV
  rw [this, Nat.zero_add]
theorem in_ePl (st : Sto) (s : Str) (l : List Str) : inP st (.str s) (ePl l) = some (decide (s ∈ l)) := by
  unfold ePl
  rw [inP_dct]
  congr 1
  rw [Bool.eq_iff_iff]
  simp [plK]
theorem clock_run (k : Nat) (c : Crd Str) (g : PV) (hg : IsG c g) (s : Str) (h : s ∈ c.cl) (st : Sto) : runF tab (k + 1) f_Gate_clock_number [g, .str s] st = some (.ok (.int ((c.cl.idxOf s : Nat) + 1)) st) := by
  obtain ⟨d1, d2, d3, rfl⟩ := hg
  rw [run_eq (d := d_Gate_clock_number) rfl rfl]
  simp [d_Gate_clock_number, b_Gate_clock_number, in_ePl, h, idx_ePl h]
theorem state_run (k : Nat) (c : Crd Str) (g : PV) (hg : IsG c g) (s : Str) (h : s ∈ c.sts.map (·.1)) (st : Sto) : runF tab (k + 1) f_Gate_state_index [g, .str s] st = some (.ok (.int ((c.sts.map (·.1)).idxOf s : Nat)) st) := by
  obtain ⟨d1, d2, d3, rfl⟩ := hg
  rw [run_eq (d := d_Gate_state_index) rfl rfl]
  simp [d_Gate_state_index, b_Gate_state_index, in_ePl, h, idx_ePl h]
theorem stOf_at {s : Str} : ∀ {l : List (Str × List (Str × Edge))}, s ∈ l.map (·.1) → l[(l.map (·.1)).idxOf s]? = some (s, stOf l s)
  | [], h => by cases h
  | p :: l, h => by
    by_cases e : p.1 = s
    · obtain ⟨a, b⟩ := p
      simp only [] at e
      subst e
      simp [stOf]
    · simp only [List.map_cons]
      rw [idxOf_ne e, List.getElem?_cons_succ, stOf_at (l := l) (by simpa [Ne.symm e] using h), stOf, if_neg e]
@[simp] theorem ixSt0 (st : Sto) (p : Str × List (Str × Edge)) : idxP st (eSta p) (.int 0) = some (.str p.1) := rfl
@[simp] theorem ixSt1 (st : Sto) (p : Str × List (Str × Edge)) : idxP st (eSta p) (.int 1) = some (eStay p.2) := rfl
theorem idx_tup {st : Sto} {xs : List PV} {i : Nat} {x : PV} (h : xs[i]? = some x) : idxP st (.tup xs) (.int (i : Nat)) = some x := by
  have e : idxP st (.tup xs) (.int (i : Nat)) = atP xs i := rfl
  rw [e, atP_nat h]
theorem idx_lst {st : Sto} {xs : List PV} {i : Nat} {x : PV} (h : xs[i]? = some x) : idxP st (.lst xs) (.int (i : Nat)) = some x := idx_tup (st := st) h
theorem idx_ref {st : Sto} {n : Nat} {xs : List PV} {i : Nat} {x : PV} (hn : st[n]? = some (.lst xs)) (h : xs[i]? = some x) : idxP st (.ref n) (.int (i : Nat)) = some x := by
  have e : idxP st (.ref n) (.int (i : Nat)) = idxO st (.ref n) (.int (i : Nat)) := rfl
  have e1 : seqOf st (.ref n) = some xs := by simp only [seqOf, hn]
  rw [e]
  unfold idxO
  simp only [e1]
  exact atP_nat h
theorem stay_run (k : Nat) (c : Crd Str) (g : PV) (hg : IsG c g) (s : Str) (h : s ∈ c.sts.map (·.1)) (st : Sto) : runF tab (k + 2) f_Gate_stay_of [g, .str s] st = some (.ok (eStay (stOf c.sts s)) st) := by
  have e1 := state_run k c g hg s h st
  obtain ⟨d1, d2, d3, rfl⟩ := hg
  rw [run_eq (d := d_Gate_stay_of) rfl rfl]
  have e2 : (c.sts.map eSta)[(c.sts.map (·.1)).idxOf s]? = some (eSta (s, stOf c.sts s)) := by
    rw [List.getElem?_map, stOf_at h]
    rfl
  simp [d_Gate_stay_of, b_Gate_stay_of, e1, idx_tup e2]
theorem lstay_run (k : Nat) (c : Crd Str) (s : Str) (hs : PyData.strOk s = true) (nm : ∀ p ∈ c.sts, PyData.strOk p.1 = true) (st : Sto) : runF tab (k + 1) f__law_stay_of [eCrd c, .str s] st = some (.ok (eStay (stOf c.sts s)) st) := by
  rw [run_eq (d := d__law_stay_of) rfl rfl]
  refine finX_of ?_
  simp [d__law_stay_of, b__law_stay_of, q_fors]
  refine for_Q eSta (fun l env σ => env = [some (eCrd c), some (.str s), none] ∧ σ = st ∧ stOf c.sts s = stOf l s ∧ ∀ p ∈ l, p ∈ c.sts) _ rfl ⟨rfl, rfl, rfl, fun p m => m⟩ (fun _ _ _ _ => trivial) ?_ ?_
  · rintro env σ ⟨rfl, rfl, e, -⟩
    rw [e]
    simp
    exact finX_S
  · rintro p l env σ ⟨rfl, rfl, e, hp⟩ Q hn hr
    have e1 := peq_str (nm p (hp p (by simp))) hs
    by_cases h : p.1 = s
    · rw [stOf, if_pos h] at e
      rw [h] at e1
      simp [e1, h]
      refine hr _ _ _ ?_
      rw [e]
      exact finX_S
    · simp [e1, h]
      exact hn _ _ ⟨rfl, rfl, by rw [e, stOf, if_neg h], fun q m => hp q (by simp [m])⟩
theorem placeS_idx {s : Str} : ∀ {l : List Str}, s ∈ l → placeS s l = some (l.idxOf s)
  | [], h => by cases h
  | a :: l, h => by
    by_cases e : a = s
    · subst e
      simp [placeS]
    · rw [placeS, if_neg e, placeS_idx (l := l) (by simpa [Ne.symm e] using h), idxOf_ne e]
      rfl
theorem strsOf_map : ∀ l : List Str, strsOf (eL l) = some l
  | [] => rfl
  | a :: l => by
    show strsOf (PV.str a :: eL l) = _
    rw [strsOf, strsOf_map l]
    rfl
theorem index_ok {s : Str} {l : List Str} (h : s ∈ l) (st : Sto) : bmf st .index (.tpd (eL l)) (.str s) = some (.int (l.idxOf s : Nat)) := by
  have e : bmf st .index (.tpd (eL l)) (.str s) = (strsOf (eL l)).bind fun ss => (placeS s ss).map fun (j : Nat) => PV.int (j : Nat) := rfl
  rw [e, strsOf_map]
  simp [placeS_idx h]
/-- readings at the clocks, as some row -/
def RdV (st : Sto) (x : PV) (cl : List Str) (rd : Str → Int) : Prop := ∀ s ∈ cl, idxP st x (.int (cl.idxOf s : Nat)) = some (mo (rd s))
def RdOk (cl : List Str) (rd : Str → Int) : Prop := ∀ s ∈ cl, 0 ≤ rd s ∧ Z (rd s)
def rdL (cl : List Str) (rd : Str → Int) : List PV := cl.map fun s => mo (rd s)
theorem map_idx {α : Type} {s : Str} {l : List Str} (h : s ∈ l) (f : Str → α) : (l.map f)[l.idxOf s]? = some (f s) := by
  rw [List.getElem?_map, List.getElem?_eq_getElem (List.idxOf_lt_length_of_mem h), List.getElem_idxOf]
  rfl
theorem rdV_tup (st : Sto) (cl : List Str) (rd : Str → Int) : RdV st (.tup (rdL cl rd)) cl rd := fun s h => idx_tup (map_idx h _)
theorem rdV_ref {st : Sto} {n : Nat} {cl : List Str} {rd : Str → Int} (h : st[n]? = some (.lst (rdL cl rd))) : RdV st (.ref n) cl rd := fun s m => idx_ref h (map_idx m _)
theorem stays_run (k : Nat) (c : Crd Str) (ok : CardOk c) (s : Str) (hs : s ∈ c.sts.map (·.1)) (x : PV) (rd : Str → Int) (st : Sto) (hx : RdV st x c.cl rd) :
    runF tab (k + 2) f__law_stays [eCrd c, .str s, x] st = some (.ok (.bl (stayOk c s rd)) st) := by
  rw [run_eq (d := d__law_stays) rfl rfl]
  refine finX_of ?_
  obtain ⟨p0, m0, rfl⟩ := List.mem_map.mp hs
  have e1 := lstay_run k c p0.1 (ok.stnm p0 m0).ok (fun p m => (ok.stnm p m).ok) st
  simp [d__law_stays, b__law_stays, q_fors, e1]
  have hst : ∀ q ∈ stOf c.sts p0.1, q.1 ∈ c.cl ∧ Le q.2 := by
    have h := List.mem_of_getElem? (stOf_at hs)
    intro q m
    exact ⟨(ok.stok _ h).mem q m, ((ok.stok _ h).ed q m).1⟩
  refine for_Q (ePr eE) (fun l env σ => env = [some (eCrd c), some (.str p0.1), some x, none, none, none] ∧ σ = st ∧ stayOk c p0.1 rd = (l.all fun p => up p.2 (rd p.1)) ∧ ∀ q ∈ l, q.1 ∈ c.cl ∧ Le q.2) _ rfl ⟨rfl, rfl, rfl, hst⟩ (fun _ _ _ _ => trivial) ?_ ?_
  · rintro env σ ⟨rfl, rfl, e, -⟩
    rw [e]
    simp
    exact finX_S
  · rintro ⟨s, ⟨l, r⟩⟩ rest env σ ⟨rfl, rfl, e, hp⟩ Q hn hr
    obtain ⟨m, le⟩ := hp (s, (l, r)) (by simp)
    simp only [] at m le
    have e2 := index_ok m σ
    have e3 := hx s m
    obtain ⟨c1, c2, c3⟩ := lim_sgn (rd s) l
    have mm := mulED (z := rd s) le
    have le2 := le.2.2
    simp only [] at le2 mm
    simp [e2, e3, bmR, mm, c1, c2, c3]
    have hu : up (l, r) (rd s) = ((!decide (l * 3000 < rd s)) && ((!decide (rd s = l * 3000)) || !decide (r = 0))) := by
      rw [Bool.eq_iff_iff]
      simp [up_iff]
      omega
    cases hb : up (l, r) (rd s) with
    | true =>
      have hb2 := hb
      rw [hu] at hb2
      have : (decide (l * 3000 < rd s) || decide (rd s = l * 3000) && decide (r = 0)) = false := by
        revert hb2
        cases decide (l * 3000 < rd s) <;> cases decide (rd s = l * 3000) <;> cases decide (r = 0) <;> simp
      simp [this]
      refine hn _ _ ⟨rfl, rfl, ?_, fun q m => hp q (by simp [m])⟩
      rw [e, List.all_cons, hb, Bool.true_and]
    | false =>
      have hb2 := hb
      rw [hu] at hb2
      have : (decide (l * 3000 < rd s) || decide (rd s = l * 3000) && decide (r = 0)) = true := by
        revert hb2
        cases decide (l * 3000 < rd s) <;> cases decide (rd s = l * 3000) <;> cases decide (r = 0) <;> simp
      simp [this]
      refine hr _ _ _ ?_
      rw [e, List.all_cons, hb, Bool.false_and]
      exact finX_S
end K87
end
section
set_option Elab.async false
set_option linter.all false
set_option maxRecDepth 100000
set_option maxHeartbeats 4000000
/-! W14: standings, by the law. -/
namespace K87
open PySem hiding Env exec
open BR KM
theorem holds_run (k : Nat) (c : Crd Str) (t : List (Str × Span)) (ht : ∀ q ∈ t, q.1 ∈ c.cl ∧ Ls q.2) (x : PV) (rd : Str → Int) (st : Sto) (hx : RdV st x c.cl rd) :
    runF tab (k + 2) f__law_holds [eCrd c, eTest t, x] st = some (.ok (.bl (testOk t rd)) st) := by
  rw [run_eq (d := d__law_holds) rfl rfl]
  refine finX_of ?_
  simp [d__law_holds, b__law_holds, q_fors]
  refine for_Q (ePr eSp) (fun l env σ => env = [some (eCrd c), some (eTest t), some x, none] ∧ σ = st ∧ testOk t rd = (l.all fun p => inS p.2 (rd p.1)) ∧ ∀ q ∈ l, q.1 ∈ c.cl ∧ Ls q.2) _ rfl ⟨rfl, rfl, rfl, ht⟩ (fun _ _ _ _ => trivial) ?_ ?_
  · rintro env σ ⟨rfl, rfl, e, -⟩
    rw [e]
    simp
    exact finX_S
  · rintro ⟨s, sp⟩ rest env σ ⟨rfl, rfl, e, hp⟩ Q hn hr
    obtain ⟨m, le⟩ := hp (s, sp) (by simp)
    simp only [] at m le
    have e2 := index_ok m σ
    have e3 := hx s m
    have e4 := lawin_run k (rd s) sp σ le
    simp [e2, e3, bmR, e4]
    cases hb : inS sp (rd s) with
    | true =>
      simp
      refine hn _ _ ⟨rfl, rfl, ?_, fun q m => hp q (by simp [m])⟩
      rw [e, List.all_cons, hb, Bool.true_and]
    | false =>
      simp
      refine hr _ _ _ ?_
      rw [e, List.all_cons, hb, Bool.false_and]
      exact finX_S
def eStd (cl : List Str) (x : Std Str) : PV := .tup [.str x.1, .tup (rdL cl x.2)]
def eO (cl : List Str) : Option (Std Str) → PV
  | none => .non
  | some x => eStd cl x
@[simp] theorem ixD0 (st : Sto) (cl : List Str) (x : Std Str) : idxP st (eStd cl x) (.int 0) = some (.str x.1) := rfl
@[simp] theorem ixD1 (st : Sto) (cl : List Str) (x : Std Str) : idxP st (eStd cl x) (.int 1) = some (.tup (rdL cl x.2)) := rfl
@[simp] theorem isNon_eStd (cl : List Str) (x : Std Str) : isNon (eStd cl x) = false := rfl
@[simp] theorem isNon_eO (cl : List Str) (x : Option (Std Str)) : isNon (eO cl x) = x.isNone := by cases x <;> rfl
@[simp] theorem eO_none (cl : List Str) : eO cl none = .non := rfl
@[simp] theorem eO_some (cl : List Str) (x : Std Str) : eO cl (some x) = eStd cl x := rfl
@[simp] theorem asg_eStd (i j : Nat) (cl : List Str) (x : Std Str) (env : BR.Env) : asg (.tup (.cons (.nm i) (.cons (.nm j) .nil))) (eStd cl x) env = some ((env.set i (some (.str x.1))).set j (some (.tup (rdL cl x.2)))) := by
  unfold eStd
  simp
/-- the first state -/
def fst0 (c : Crd Str) : Str := (c.sts.map (·.1)).headD ⟨#[]⟩
theorem fst0_ok {c : Crd Str} (ok : CardOk c) : ∃ p, c.sts[0]? = some p ∧ p.1 = fst0 c ∧ p ∈ c.sts := by
  have h := ok.st0
  cases e : c.sts with
  | nil => exact absurd e h
  | cons p l => exact ⟨p, rfl, by unfold fst0; rw [e]; rfl, by simp⟩
def std0 (c : Crd Str) : Std Str := (fst0 c, fun _ => 0)
theorem begin_run (k : Nat) (c : Crd Str) (ok : CardOk c) (st : Sto) : runF tab (k + 1) f__law_begin [eCrd c] st = some (.ok (eStd c.cl (std0 c)) st) := by
  obtain ⟨p, e, e2, -⟩ := fst0_ok ok
  rw [run_eq (d := d__law_begin) rfl rfl]
  have e3 : idxP st (.tup (c.sts.map eSta)) (.int 0) = some (eSta p) := idx_tup (i := 0) (by rw [List.getElem?_map, e]; rfl)
  simp [d__law_begin, b__law_begin, e3, x_lc]
  rw [show eL c.cl = c.cl.map PV.str from rfl, lcL_map PV.str (fun _ => mo 0) trivial c.cl (fun p m => by simp; rfl)]
  simp [e2]
  rfl
theorem rested_run (k : Nat) (c : Crd Str) (ok : CardOk c) (x : Std Str) (hs : x.1 ∈ c.sts.map (·.1)) (hx : ∀ s ∈ c.cl, Z (x.2 s)) (g : Int) (hg : Z g) (st : Sto) :
    runF tab (k + 3) f__law_rested [eCrd c, eStd c.cl x, mo g] st = some (.ok (eO c.cl (restA c x g)) st) := by
  rw [run_eq (d := d__law_rested) rfl rfl]
  simp [d__law_rested, b__law_rested, x_lc]
  rw [show rdL c.cl x.2 = c.cl.map fun s => mo (x.2 s) from rfl, lcL_map (fun s => mo (x.2 s)) (fun s => mo (x.2 s + g)) trivial c.cl (fun s m => by simp [plus_run k _ _ _ (hx s m) hg])]
  have e := stays_run k c ok x.1 hs (.tup (rdL c.cl fun s => x.2 s + g)) (fun s => x.2 s + g) st (rdV_tup st c.cl _)
  rw [show (c.cl.map fun s => mo (x.2 s + g)) = rdL c.cl fun s => x.2 s + g from rfl]
  simp [e]
  unfold restA
  cases stayOk c x.1 (fun s => x.2 s + g) with
  | true => simp; rfl
  | false => simp
theorem idx_tpd {st : Sto} {xs : List PV} {i : Nat} {x : PV} (h : xs[i]? = some x) : idxP st (.tpd xs) (.int (i : Nat)) = some x := idx_tup (st := st) h
theorem after_run (k : Nat) (c : Crd Str) (ok : CardOk c) (x : Std Str) (hs : x.1 ∈ c.sts.map (·.1)) (p : Stp Str) (hp : StepOk c p) (st : Sto) :
    runF tab (k + 3) f__law_after [eCrd c, eStd c.cl x, eStp p] st = some (.ok (eO c.cl (aftA c x p)) st) := by
  rw [run_eq (d := d__law_after) rfl rfl]
  refine finX_of ?_
  obtain ⟨p0, m0, e0⟩ := List.mem_map.mp hs
  obtain ⟨p1, m1, e1⟩ := List.mem_map.mp hp.src
  have e2 := peq_str (a := p.src) (b := x.1) (by rw [← e1]; exact (ok.stnm p1 m1).ok) (by rw [← e0]; exact (ok.stnm p0 m0).ok)
  have e3 := holds_run k c p.test (fun q m => ⟨hp.test.mem q m, (hp.test.sp q m).1⟩) (.tup (rdL c.cl x.2)) x.2 st (rdV_tup st c.cl _)
  simp [d__law_after, b__law_after, e2, e3, q_fors]
  unfold aftA
  by_cases h1 : p.src = x.1
  · cases h2 : testOk p.test x.2 with
    | false =>
      simp [h1]
      exact finX_S
    | true =>
      simp [h1, rngL_nat _ (show c.cl.length ≤ 1000000 by have := ok.cl6; omega)]
      rw [List.range_eq_range']
      let en (y : PV) : BR.Env := [some (eCrd c), some (eStd c.cl x), some (eStp p), some (.ref st.length), none]
      refine for_Q (fun i : Nat => PV.int i) (fun l env σ => ∃ i, i ≤ c.cl.length ∧ l = List.range' i (c.cl.length - i) ∧ env = en .non ∧ σ = st ++ [.lst ((rdL c.cl (zer p.res x.2)).take i)]) _ rfl ⟨0, by omega, rfl, rfl, rfl⟩ (fun _ _ _ _ => trivial) ?_ ?_
      · rintro env σ ⟨i, hi, hl, rfl, rfl⟩
        have hi2 : i = c.cl.length := by
          have := congrArg List.length hl
          simp at this
          omega
        rw [List.take_of_length_le (by simp [rdL]; omega)]
        have e4 : (st ++ [Cell.lst (rdL c.cl (zer p.res x.2))])[st.length]? = some (.lst (rdL c.cl (zer p.res x.2))) := by simp
        have e5 := stays_run k c ok p.tgt hp.tgt (.ref st.length) (zer p.res x.2) _ (rdV_ref e4)
        simp [en, e5, tuple_ref e4]
        cases h3 : stayOk c p.tgt (zer p.res x.2) with
        | true =>
          simp
          refine finX_E ?_
          show PV.pu (.tup [.str _, .tup (rdL _ _)]) = true
          simp
          exact pus_map _ _ fun _ _ => rfl
        | false =>
          simp
          exact finX_E rfl
      · rintro i l env σ ⟨j, hj, hl, rfl, rfl⟩ Q hn hr
        have hj2 : j < c.cl.length := by
          have := congrArg List.length hl
          simp at this
          omega
        rw [show c.cl.length - j = (c.cl.length - j - 1) + 1 by omega, List.range'_succ] at hl
        simp only [List.cons.injEq] at hl
        obtain ⟨rfl, rfl⟩ := hl
        have g1 : (eL c.cl)[i]? = some (.str c.cl[i]) := by simp [eL, List.getElem?_eq_getElem hj2]
        have g2 : (rdL c.cl x.2)[i]? = some (mo (x.2 c.cl[i])) := by simp [rdL, List.getElem?_eq_getElem hj2]
        have g3 : (rdL c.cl (zer p.res x.2))[i]? = some (mo (zer p.res x.2 c.cl[i])) := by simp [rdL, List.getElem?_eq_getElem hj2]
        have g4 : (rdL c.cl (zer p.res x.2)).take (i + 1) = (rdL c.cl (zer p.res x.2)).take i ++ [mo (zer p.res x.2 c.cl[i])] := by rw [List.take_add_one, g3]; rfl
        have hlen := fun (env : BR.Env) (v : PV) => app_end (env := env) (st := st) (xs := (rdL c.cl (zer p.res x.2)).take i) v (by
          have := ok.cl6
          rw [List.length_take]
          omega)
        have hq : Q (.ok .nx (en .non) (st ++ [.lst ((rdL c.cl (zer p.res x.2)).take i ++ [mo (zer p.res x.2 c.cl[i])])])) := hn _ _ ⟨i + 1, by omega, by congr 1, rfl, by rw [g4]⟩
        simp [en, idx_tpd g1, idx_tup g2, hlen]
        by_cases hm : c.cl[i] ∈ p.res
        · rw [show zer p.res x.2 c.cl[i] = 0 from if_pos hm] at hq
          simp [hm]
          exact hq
        · rw [show zer p.res x.2 c.cl[i] = x.2 c.cl[i] from if_neg hm] at hq
          simp [hm]
          exact hq
  · simp [h1]
    exact finX_S
end K87
end
section
set_option Elab.async false
set_option linter.all false
set_option maxRecDepth 100000
set_option maxHeartbeats 4000000
/-! W15: standings, by the program. -/
namespace K87
open PySem hiding Env exec
open BR KM
theorem x_lcc {T : Tab} {Φ : Phi} {env : BR.Env} {st : Sto} (it : It) (tg : Tg) (c elt : E) (own : List (PySem.Str × Nat)) : ev T Φ (.lcc it tg c elt own) env st = bnd (evi T Φ it env st) fun p st =>
    bnd (lcL (gok p.2) (fun v st => match asg tg v (wipeE env (own.map (·.2))) with
      | some env' => bnd (bnd (ev T Φ c env' st) fun x st => lif (tru st x) st) fun r st => bif r then bnd (ev T Φ elt env' st) fun x st => some (.ok (some x) st) else some (.ok none st)
      | none => none) p.1 st) fun xs st => some (.ok (.lst xs) st) := by
  simp only [ev]
  rfl
/-- the steps that are let -/
def letA (c : Crd Str) (x : Std Str) : List Nat := (List.range c.steps.length).filter fun k => ((c.steps[k]?).bind fun p => aftA c x p).isSome
theorem let_run (k : Nat) (c : Crd Str) (ok : CardOk c) (x : Std Str) (hs : x.1 ∈ c.sts.map (·.1)) (st : Sto) :
    runF tab (k + 4) f__law_let [eCrd c, eStd c.cl x] st = some (.ok (.lst ((letA c x).map fun (i : Nat) => .int i)) st) := by
  rw [run_eq (d := d__law_let) rfl rfl]
  simp [d__law_let, b__law_let, x_lcc, rngL_nat _ (show c.steps.length ≤ 1000000 by have := ok.sp400; omega)]
  rw [lcL_filt (fun i : Nat => PV.int i) (fun k => ((c.steps[k]?).bind fun p => aftA c x p).isSome) (fun i : Nat => PV.int i) trivial (List.range c.steps.length) (fun i m => by
    have hi := List.mem_range.mp m
    have e : (c.steps.map eStp)[i]? = some (eStp c.steps[i]) := by simp [List.getElem?_eq_getElem hi]
    have e2 := after_run k c ok x hs c.steps[i] (ok.spok _ (List.getElem_mem hi)) st
    simp [idx_tup e, e2, List.getElem?_eq_getElem hi]
    cases aftA c x c.steps[i] <;> simp)]
  simp
  rfl
/-! the program -/
theorem clock_sub (k : Nat) (c : Crd Str) (g : PV) (hg : IsG c g) (s : Str) (h : s ∈ c.cl) (st : Sto) {Φ : Phi} (hΦ : Φ = runF tab (k + 1)) : Φ f_Gate_clock_number [g, .str s] st = some (.ok (.int ((c.cl.idxOf s : Nat) + 1)) st) := by
  rw [hΦ, clock_run k c g hg s h st]
theorem walked_of {st : Sto} {x : PV} {l : List PV} (h : x = .tup l ∨ x = .lst l) : walked st x = some (l, none) := by
  rcases h with rfl | rfl <;> rfl
theorem test_run (k : Nat) (c : Crd Str) (g : PV) (hg : IsG c g) (t : List (Str × Span)) (ht : ∀ q ∈ t, q.1 ∈ c.cl ∧ Ls q.2) (tv : PV) (htv : tv = .tup (t.map (ePr eSp)) ∨ tv = .lst (t.map (ePr eSp))) (x : PV) (rd : Str → Int) (st : Sto) (hx : RdV st x c.cl rd) :
    runF tab (k + 2) f_test_holds [g, tv, x] st = some (.ok (.bl (testOk t rd)) st) := by
  have hg0 := hg
  obtain ⟨d1, d2, d3, rfl⟩ := hg
  rw [run_eq (d := d_test_holds) rfl rfl]
  simp [d_test_holds, b_test_holds, x_lc, walked_of htv]
  rw [lcL_map (ePr eSp) (fun p => PV.bl (inS p.2 (rd p.1))) trivial t (fun p m => by
    obtain ⟨h1, h2⟩ := ht p m
    have e := clock_run k c (eGt c d1 d2 d3) hg0 p.1 h1 st
    have e3 := hx p.1 h1
    simp [e, e3, in_span_run k (rd p.1) p.2 st h2])]
  simp [all_bls]
  rfl
theorem zero_edge (z : Int) (h : 0 ≤ z) (e : Edge) : inS ((0, 1), some e) z = up e z := by
  unfold inS
  have : lo (0, 1) z = true := by
    rw [lo_iff]
    simp only [and_true]
    omega
  rw [this]
  rfl
theorem stay_holds_run (k : Nat) (c : Crd Str) (ok : CardOk c) (g : PV) (hg : IsG c g) (s : Str) (hs : s ∈ c.sts.map (·.1)) (x : PV) (rd : Str → Int) (st : Sto) (hx : RdV st x c.cl rd) (hr : ∀ s ∈ c.cl, 0 ≤ rd s) :
    runF tab (k + 3) f_stay_holds [g, .str s, x] st = some (.ok (.bl (stayOk c s rd)) st) := by
  have hst : ∀ q ∈ stOf c.sts s, q.1 ∈ c.cl ∧ Le q.2 := by
    have h := List.mem_of_getElem? (stOf_at hs)
    intro q m
    exact ⟨(ok.stok _ h).mem q m, ((ok.stok _ h).ed q m).1⟩
  have e1 := stay_run k c g hg s hs st
  have e2 := test_run k c g hg ((stOf c.sts s).map fun p => (p.1, ((0, 1), some p.2))) (fun q m => by
    obtain ⟨p, m', rfl⟩ := List.mem_map.mp m
    refine ⟨(hst p m').1, ?_, ?_⟩
    · unfold Le
      simp
    · intro e h
      cases h
      exact (hst p m').2) (.lst (((stOf c.sts s).map fun p => (p.1, ((0, 1), some p.2))).map (ePr eSp))) (.inr rfl) x rd st hx
  have hg0 := hg
  obtain ⟨d1, d2, d3, rfl⟩ := hg
  rw [run_eq (d := d_stay_holds) rfl rfl]
  simp [d_stay_holds, b_stay_holds, x_lc, e1]
  rw [lcL_map (ePr eE) (fun p => ePr eSp (p.1, ((0, 1), some p.2))) trivial (stOf c.sts s) (fun p m => by simp [glb27]; rfl)]
  have e3 : (stOf c.sts s).map (fun p => ePr eSp (p.1, ((0, 1), some p.2))) = ((stOf c.sts s).map fun p => (p.1, (((0, 1), some p.2) : Span))).map (ePr eSp) := by simp
  rw [e3]
  simp only [bnd_ok, xs_nil]
  have e4 : testOk ((stOf c.sts s).map fun p => (p.1, (((0, 1), some p.2) : Span))) rd = stayOk c s rd := by
    unfold testOk stayOk
    rw [List.all_map, Bool.eq_iff_iff, List.all_eq_true, List.all_eq_true]
    constructor
    · intro h q m
      have := h q m
      simp only [Function.comp] at this
      rwa [zero_edge _ (hr _ (hst q m).1)] at this
    · intro h q m
      simp only [Function.comp]
      rw [zero_edge _ (hr _ (hst q m).1)]
      exact h q m
  rw [e4] at e2
  simp [-List.map_map, e2]
theorem start_run (k : Nat) (c : Crd Str) (ok : CardOk c) (g : PV) (hg : IsG c g) (st : Sto) : runF tab (k + 1) f_start [g] st = some (.ok (eStd c.cl (std0 c)) st) := by
  obtain ⟨d1, d2, d3, rfl⟩ := hg
  obtain ⟨p, e, e2, -⟩ := fst0_ok ok
  rw [run_eq (d := d_start) rfl rfl]
  have e3 : idxP st (.tup (c.sts.map eSta)) (.int 0) = some (eSta p) := idx_tup (i := 0) (by rw [List.getElem?_map, e]; rfl)
  simp [d_start, b_start, e3, x_lc]
  rw [show eL c.cl = c.cl.map PV.str from rfl, lcL_map PV.str (fun _ => mo 0) trivial c.cl (fun p m => by simp [glb27])]
  simp [e2]
  rfl
theorem advanced_run (k : Nat) (cl : List Str) (rd : Str → Int) (g : Int) (h : ∀ s ∈ cl, 0 ≤ rd s ∧ Z (rd s) ∧ Z (rd s + g)) (h0 : 0 ≤ g) (hg : Z g) (st : Sto) :
    runF tab (k + 3) f_advanced [.tup (rdL cl rd), mo g] st = some (.ok (.tup (rdL cl fun s => rd s + g)) st) := by
  rw [run_eq (d := d_advanced) rfl rfl]
  simp [d_advanced, b_advanced, x_lc]
  rw [show rdL cl rd = cl.map fun s => mo (rd s) from rfl, lcL_map (fun s => mo (rd s)) (fun s => mo (rd s + g)) trivial cl (fun s m => by
    obtain ⟨h1, h2, h3⟩ := h s m
    simp [added_run k _ _ st h1 h0 h2 hg h3])]
  simp
  rfl
theorem after_rest_run (k : Nat) (c : Crd Str) (ok : CardOk c) (gt : PV) (hg : IsG c gt) (x : Std Str) (hs : x.1 ∈ c.sts.map (·.1)) (g : Int) (h : ∀ s ∈ c.cl, 0 ≤ x.2 s ∧ Z (x.2 s) ∧ Z (x.2 s + g)) (h0 : 0 ≤ g) (hz : Z g) (st : Sto) :
    runF tab (k + 4) f__after_rest [gt, eStd c.cl x, mo g] st = some (.ok (eO c.cl (restA c x g)) st) := by
  have e1 := advanced_run k c.cl x.2 g h h0 hz st
  have e2 := stay_holds_run k c ok gt hg x.1 hs (.tup (rdL c.cl fun s => x.2 s + g)) (fun s => x.2 s + g) st (rdV_tup st c.cl _) (fun s m => by have := (h s m).1; show 0 ≤ x.2 s + g; omega)
  rw [run_eq (d := d__after_rest) rfl rfl]
  simp [d__after_rest, b__after_rest, e1, e2]
  unfold restA
  cases stayOk c x.1 (fun s => x.2 s + g) with
  | true => simp; rfl
  | false => simp
theorem map_set {α : Type} {s : Str} {f : Str → α} {y : α} : ∀ {l : List Str}, l.Nodup → s ∈ l → (l.map f).set (l.idxOf s) y = l.map fun t => if t = s then y else f t
  | [], _, h => by cases h
  | a :: l, nd, h => by
    obtain ⟨n1, n2⟩ := List.nodup_cons.mp nd
    by_cases e : a = s
    · subst e
      simp
      intro t m e
      subst e
      exact absurd m n1
    · rw [idxOf_ne e, List.map_cons, List.set_cons_succ, map_set n2 (by simpa [Ne.symm e] using h)]
      simp [e]
theorem six_lst {env : BR.Env} {st : Sto} {xs : List PV} {i : Nat} (v : PV) (h : i < xs.length) : sixP env (st ++ [.lst xs]) (.ref st.length) (.int (i : Nat)) v = some (.ok .nx env (st ++ [.lst (xs.set i v)])) := by
  have e : (st ++ [Cell.lst xs])[st.length]? = some (.lst xs) := by simp
  unfold sixP
  simp only [e, ixN_nat h, set_end1]
theorem after_step_run (k : Nat) (c : Crd Str) (ok : CardOk c) (gt : PV) (hg : IsG c gt) (x : Std Str) (hs : x.1 ∈ c.sts.map (·.1)) (h : ∀ s ∈ c.cl, 0 ≤ x.2 s) (i : Nat) (p : Stp Str) (hp : c.steps[i]? = some p) (st : Sto) :
    runF tab (k + 4) f__after_step [gt, eStd c.cl x, .int i] st = some (.ok (eO c.cl (aftA c x p)) st) := by
  have so := ok.spok p (List.mem_of_getElem? hp)
  obtain ⟨p0, m0, e0⟩ := List.mem_map.mp hs
  obtain ⟨p1, m1, e1⟩ := List.mem_map.mp so.src
  have e2 := peq_str (a := p.src) (b := x.1) (by rw [← e1]; exact (ok.stnm p1 m1).ok) (by rw [← e0]; exact (ok.stnm p0 m0).ok)
  have e3 := test_run (k + 1) c gt hg p.test (fun q m => ⟨so.test.mem q m, (so.test.sp q m).1⟩) (.tup (p.test.map (ePr eSp))) (.inl rfl) (.tup (rdL c.cl x.2)) x.2 st (rdV_tup st c.cl _)
  have e4 : (c.steps.map eStp)[i]? = some (.tup [.str p.src, .str p.deed, .tup (p.test.map (ePr eSp)), .tup (eL p.res), .str p.tgt]) := by rw [List.getElem?_map, hp]; rfl
  have hg0 := hg
  obtain ⟨d1, d2, d3, rfl⟩ := hg
  rw [run_eq (d := d__after_step) rfl rfl]
  refine finX_of ?_
  simp [d__after_step, b__after_step, e2, e3, idx_tup e4, q_fors]
  unfold aftA
  by_cases h1 : p.src = x.1
  · cases h2 : testOk p.test x.2 with
    | false =>
      simp [h1]
      exact finX_S
    | true =>
      have e5 : bltf st .list [.tup (rdL c.cl x.2)] = some (.lst (rdL c.cl x.2)) := rfl
      simp [h1, e5]
      let en : BR.Env := [some (eGt c d1 d2 d3), some (eStd c.cl x), some (.int i), some (.str x.1), some (.tup (rdL c.cl x.2)), some (.str p.src), some (.str p.deed), some (.tup (p.test.map (ePr eSp))), some (.tup (eL p.res)), some (.str p.tgt), some (.ref st.length), none]
      refine for_Q PV.str (fun l env σ => ∃ dn, p.res = dn ++ l ∧ env = en ∧ σ = st ++ [.lst (rdL c.cl (zer dn x.2))]) p.res rfl ⟨[], rfl, by simp [en, h1], by congr⟩ (fun _ _ _ _ => trivial) ?_ ?_
      · rintro env σ ⟨dn, e6, rfl, rfl⟩
        rw [List.append_nil] at e6
        subst e6
        have e7 : (st ++ [Cell.lst (rdL c.cl (zer p.res x.2))])[st.length]? = some (.lst (rdL c.cl (zer p.res x.2))) := by simp
        have e8 := stay_holds_run k c ok _ hg0 p.tgt so.tgt (.ref st.length) (zer p.res x.2) _ (rdV_ref e7) (fun s m => by unfold zer; split; omega; exact h s m)
        simp [en, e8, tuple_ref e7]
        cases h3 : stayOk c p.tgt (zer p.res x.2) with
        | true =>
          simp
          refine finX_E ?_
          show PV.pu (.tup [.str _, .tup (rdL _ _)]) = true
          simp
          exact pus_map _ _ fun _ _ => rfl
        | false =>
          simp
          exact finX_E rfl
      · rintro s l env σ ⟨dn, e6, rfl, rfl⟩ Q hn hr
        have m : s ∈ c.cl := so.rmem s (by rw [e6]; simp)
        have e7 := fun σ => clock_run (k + 2) c _ hg0 s m σ
        have e8 := fun (env : BR.Env) (v : PV) => six_lst (env := env) (st := st) (xs := rdL c.cl (zer dn x.2)) (i := c.cl.idxOf s) v (by rw [rdL, List.length_map]; exact List.idxOf_lt_length_of_mem m)
        have e9 : (rdL c.cl (zer dn x.2)).set (c.cl.idxOf s) (mo 0) = rdL c.cl (zer (dn ++ [s]) x.2) := by
          unfold rdL
          rw [map_set ok.clnd m]
          apply List.map_congr_left
          intro t _
          unfold zer
          by_cases e : t = s
          · simp [e]
          · simp [e]
        simp [en, e7, e8, glb27, e9]
        exact hn _ _ ⟨dn ++ [s], by simp [e6], rfl, rfl⟩
  · simp [h1]
    exact finX_S
end K87
end
section
set_option Elab.async false
set_option linter.all false
set_option maxRecDepth 100000
set_option maxHeartbeats 4000000
/-! W16: rows and runs. -/
namespace K87
open PySem hiding Env exec
open BR KM
/-- an entry: its moment, its step's index, its step -/
abbrev En := Int × Nat × Stp Str
def eEn (e : En) : PV := .tup [mo e.1, .str e.2.2.deed]
def eRow (es : List En) : PV := .tup (es.map eEn)
def ePath (es : List En) : PV := .tup (es.map fun e => PV.int (e.2.1 : Nat))
def eRun (es : List En) : PV := .tup [eRow es, ePath es, mo 0]
/-- the moments never fall, and all stands as it should -/
def RowOk (c : Crd Str) : Int → List En → Prop
  | _, [] => True
  | b, e :: r => b ≤ e.1 ∧ e.1 ≤ 1000000000 ∧ c.steps[e.2.1]? = some e.2.2 ∧ RowOk c e.1 r
@[simp] theorem isi_eEn (e : En) : isiP (eEn e) .tuple = some true := rfl
@[simp] theorem isi_eRow (e : List En) : isiP (eRow e) .tuple = some true := rfl
@[simp] theorem isi_ePath (e : List En) : isiP (ePath e) .tuple = some true := rfl
@[simp] theorem isi_eRun (e : List En) : isiP (eRun e) .tuple = some true := rfl
@[simp] theorem len_eEn (st : Sto) (e : En) : bltf st .len [eEn e] = some (.int 2) := rfl
@[simp] theorem len_eRun (st : Sto) (e : List En) : bltf st .len [eRun e] = some (.int 3) := rfl
@[simp] theorem len_eRow (st : Sto) (e : List En) : bltf st .len [eRow e] = some (.int e.length) := by
  unfold eRow
  simp
@[simp] theorem len_ePath (st : Sto) (e : List En) : bltf st .len [ePath e] = some (.int e.length) := by
  unfold ePath
  simp
@[simp] theorem ixEn0 (st : Sto) (e : En) : idxP st (eEn e) (.int 0) = some (mo e.1) := rfl
@[simp] theorem ixEn1 (st : Sto) (e : En) : idxP st (eEn e) (.int 1) = some (.str e.2.2.deed) := rfl
@[simp] theorem ixRun0 (st : Sto) (e : List En) : idxP st (eRun e) (.int 0) = some (eRow e) := rfl
@[simp] theorem ixRun1 (st : Sto) (e : List En) : idxP st (eRun e) (.int 1) = some (ePath e) := rfl
@[simp] theorem ixRun2 (st : Sto) (e : List En) : idxP st (eRun e) (.int 2) = some (mo 0) := rfl
@[simp] theorem asg_eEn (i j : Nat) (e : En) (env : BR.Env) : asg (.tup (.cons (.nm i) (.cons (.nm j) .nil))) (eEn e) env = some ((env.set i (some (mo e.1))).set j (some (.str e.2.2.deed))) := by
  unfold eEn
  simp
@[simp] theorem asg_eNumEn (i j m : Nat) (p : En × Nat) (env : BR.Env) : asg (.tup (.cons (.nm i) (.cons (.tup (.cons (.nm j) (.cons (.nm m) .nil))) .nil))) (eNum eEn p) env = some (((env.set i (some (.int p.2))).set j (some (mo p.1.1))).set m (some (.str p.1.2.2.deed))) := by
  unfold eNum
  simp
@[simp] theorem asg_eRun (i j m : Nat) (es : List En) (env : BR.Env) : asg (.tup (.cons (.nm i) (.cons (.nm j) (.cons (.nm m) .nil)))) (eRun es) env = some (((env.set i (some (eRow es))).set j (some (ePath es))).set m (some (mo 0))) := by
  unfold eRun
  simp
@[simp] theorem walked_row (st : Sto) (es : List En) : walked st (eRow es) = some (es.map eEn, none) := rfl
@[simp] theorem enm_row (st : Sto) (es : List En) : enmL (eRow es) st = some (.ok (es.zipIdx.map (eNum eEn), none) st) := by
  unfold eRow
  simp [enm_map]
theorem sg_nn {a b : Int} (h : b ≤ a) : ¬ sg a b < 0 := by
  unfold sg
  rw [if_neg (by omega)]
  split <;> omega
theorem Z_of {z : Int} (h0 : 0 ≤ z) (h : z ≤ 1000000000) : Z z := by
  unfold Z
  omega
theorem Z0 : Z 0 := by unfold Z; omega
theorem RowOk.deed {c : Crd Str} (ok : CardOk c) : ∀ {es : List En} {b : Int}, RowOk c b es → ∀ e ∈ es, Sim e.2.2.deed
  | [], _, _, e, m => by cases m
  | a :: r, b, h, e, m => by
    rcases List.mem_cons.mp m with rfl | m
    · exact (ok.spok _ (List.mem_of_getElem? h.2.2.1)).deed
    · exact RowOk.deed ok h.2.2.2 e m
theorem wrong_entry_run (k : Nat) (c : Crd Str) (ok : CardOk c) (es : List En) (h : RowOk c 0 es) (st : Sto) : runF tab (k + 3) f__wrong_entry [eRow es] st = some (.ok .non st) := by
  rw [run_eq (d := d__wrong_entry) rfl rfl]
  refine finX_of ?_
  simp [d__wrong_entry, b__wrong_entry, q_fors, glb27]
  refine for_Q (eNum eEn) (fun l env σ => ∃ b, 0 ≤ b ∧ b ≤ 1000000000 ∧ env = [some (eRow es), some (mo b), none, none, none, none] ∧ σ = st ∧ RowOk c b (l.map (·.1))) _ rfl ⟨0, by omega, by omega, rfl, rfl, by rw [zipIdx_fst]; exact h⟩ (fun _ _ _ _ => trivial) ?_ ?_
  · rintro env σ ⟨b, h0, h1, rfl, rfl, -⟩
    simp
    exact finX_S
  · rintro ⟨e, i⟩ l env σ ⟨b, h0, h1, rfl, rfl, h2, h3, h4, h5⟩ Q hn hr
    simp only [] at h2 h3 h4 h5
    have d := (ok.spok _ (List.mem_of_getElem? h4)).deed
    have s := sg_nn h2
    simp [is_moment_run k e.1 σ (by omega), is_simple_run (k + 1) _ σ d, compared_run (k + 1) e.1 b σ (Z_of (by omega) h3) (Z_of h0 h1), s]
    exact hn _ _ ⟨e.1, by omega, h3, rfl, rfl, h5⟩
theorem check_row_run (k : Nat) (c : Crd Str) (ok : CardOk c) (es : List En) (h : RowOk c 0 es) (st : Sto) : runF tab (k + 4) f_check_row [eRow es] st = some (.ok .non st) := by
  rw [run_eq (d := d_check_row) rfl rfl]
  simp [d_check_row, b_check_row, wrong_entry_run k c ok es h st]
theorem is_row_run (k : Nat) (c : Crd Str) (es : List En) (h : RowOk c 0 es) (st : Sto) : runF tab (k + 3) f__law_is_row [eRow es] st = some (.ok (.bl true) st) := by
  rw [run_eq (d := d__law_is_row) rfl rfl]
  refine finX_of ?_
  simp [d__law_is_row, b__law_is_row, q_fors]
  refine for_Q eEn (fun l env σ => ∃ b, 0 ≤ b ∧ b ≤ 1000000000 ∧ env = [some (eRow es), some (mo b), none] ∧ σ = st ∧ RowOk c b l) es rfl ⟨0, by omega, by omega, rfl, rfl, h⟩ (fun _ _ _ _ => trivial) ?_ ?_
  · rintro env σ ⟨b, h0, h1, rfl, rfl, -⟩
    simp
    exact finX_S
  · rintro e l env σ ⟨b, h0, h1, rfl, rfl, h2, h3, h4, h5⟩ Q hn hr
    have s : ¬ e.1 < b := by omega
    simp [lmoment_run k e.1 σ (by omega), less_run (k + 1) e.1 b σ (Z_of (by omega) h3) (Z_of h0 h1), s]
    exact hn _ _ ⟨e.1, by omega, h3, rfl, rfl, h5⟩
/-- the rests before the entries -/
def difs : Int → List En → List Int
  | _, [] => []
  | b, e :: r => (e.1 - b) :: difs e.1 r
theorem rests_lc {c : Crd Str} {f : PV → Sto → Mo (Option PV)} {st : Sto} {es : List En} (hf : ∀ (p : En × Nat) (a : Int), (mo 0 :: es.map fun e => mo e.1)[p.2]? = some (mo a) → 0 ≤ a → a ≤ p.1.1 → p.1.1 ≤ 1000000000 → f (eNum eEn p) st = some (.ok (some (mo (p.1.1 - a))) st)) :
    ∀ (l : List En) (n : Nat) (b : Int), RowOk c b l → 0 ≤ b → (mo 0 :: es.map fun e => mo e.1)[n]? = some (mo b) → (∀ i e, l[i]? = some e → es[n + i]? = some e) → lcL (gok none) f ((l.zipIdx n).map (eNum eEn)) st = some (.ok ((difs b l).map mo) st)
  | [], n, b, _, _, _, _ => by simp [lcL, difs]
  | e :: l, n, b, h, h0, hm, he => by
    obtain ⟨h2, h3, h4, h5⟩ := h
    simp only [List.zipIdx_cons, List.map_cons, lcL, difs]
    rw [if_pos (show gok none st from trivial), hf (e, n) b hm h0 h2 h3]
    simp only []
    rw [rests_lc hf l (n + 1) e.1 h5 (by omega) (by
      have := he 0 e rfl
      simp only [Nat.add_zero] at this
      rw [List.getElem?_cons_succ, List.getElem?_map, this]
      rfl) (fun i e' m => by
      have := he (i + 1) e' (by simpa using m)
      rw [← this]
      congr 1
      omega)]
    rfl
theorem rests_run (k : Nat) (c : Crd Str) (es : List En) (h : RowOk c 0 es) (hl : es.length ≤ 100) (st : Sto) : runF tab (k + 3) f__rests_before [eRow es] st = some (.ok (.lst ((difs 0 es).map mo)) st) := by
  rw [run_eq (d := d__rests_before) rfl rfl]
  simp [d__rests_before, b__rests_before, x_lc, glb27]
  rw [lcL_map eEn (fun e => mo e.1) trivial es (fun e m => by simp)]
  have e1 : bin2 .add (.lst [mo 0]) (.lst (es.map fun e => mo e.1)) = some (.lst (mo 0 :: es.map fun e => mo e.1)) := by
    show (if [mo 0].length + (es.map fun e => mo e.1).length ≤ sizeLine then some (PV.lst ([mo 0] ++ es.map fun e => mo e.1)) else none) = _
    rw [if_pos (by simp; rw [sizeLine_eq]; omega)]
    rfl
  simp [e1]
  rw [rests_lc (c := c) (es := es) (fun p a ha h0 h1 h2 => by
    have e2 := idx_lst (st := st) ha
    simp [eNum]
    simp [e2, since_run k a p.1.1 st (Z_of h0 (by omega)) (Z_of (by omega) h2) h1]) es 0 0 h (by omega) rfl (fun i e m => by simpa using m)]
  simp
/-- a standing that may be met at the moment -/
def StdOk (c : Crd Str) (now : Int) (x : Std Str) : Prop := x.1 ∈ c.sts.map (·.1) ∧ ∀ s, 0 ≤ x.2 s ∧ x.2 s ≤ now
theorem std0_ok {c : Crd Str} (ok : CardOk c) : StdOk c 0 (std0 c) := by
  obtain ⟨p, -, h, m⟩ := fst0_ok ok
  exact ⟨List.mem_map.mpr ⟨p, m, h⟩, fun s => ⟨Int.le_refl _, Int.le_refl _⟩⟩
theorem restA_ok {c : Crd Str} {a b : Int} {x y : Std Str} (h : StdOk c a x) (l : a ≤ b) (e : restA c x (b - a) = some y) : StdOk c b y := by
  unfold restA at e
  split at e
  · cases e
    refine ⟨h.1, fun s => ?_⟩
    have := h.2 s
    simp only []
    omega
  · cases e
theorem aftA_ok {c : Crd Str} {a : Int} {x y : Std Str} {p : Stp Str} (h : StdOk c a x) (h0 : 0 ≤ a) (sp : StepOk c p) (e : aftA c x p = some y) : StdOk c a y := by
  unfold aftA at e
  split at e
  · split at e
    · cases e
      refine ⟨sp.tgt, fun s => ?_⟩
      have := h.2 s
      unfold zer
      simp only []
      split <;> omega
    · cases e
  · cases e
/-- the walk through the entries -/
def wk (es : List En) : List (Int × Stp Str) := es.map fun e => (e.1, e.2.2)
theorem steps_at {c : Crd Str} {i : Nat} {p : Stp Str} (h : c.steps[i]? = some p) : (c.steps.map eStp)[i]? = some (eStp p) := by rw [List.getElem?_map, h]; rfl
theorem ixRow {es : List En} {i : Nat} {e : En} (h : es[i]? = some e) (st : Sto) : idxP st (eRow es) (.int (i : Nat)) = some (eEn e) := idx_tup (by rw [List.getElem?_map, h]; rfl)
theorem ixPath {es : List En} {i : Nat} {e : En} (h : es[i]? = some e) (st : Sto) : idxP st (ePath es) (.int (i : Nat)) = some (.int (e.2.1 : Nat)) := idx_tup (by rw [List.getElem?_map, h]; rfl)
theorem difs_drop : ∀ {es : List En} {b : Int} {n : Nat} {e : En} {r : List En}, es.drop n = e :: r → ∃ a, (difs b es).drop n = (e.1 - a) :: difs e.1 r ∧ (n = 0 → a = b)
  | [], _, n, _, _, h => by simp at h
  | e0 :: es, b, 0, e, r, h => by
    cases h
    exact ⟨b, rfl, fun _ => rfl⟩
  | e0 :: es, b, n + 1, e, r, h => by
    obtain ⟨a, h1, -⟩ := difs_drop (b := e0.1) (n := n) (by simpa using h)
    exact ⟨a, by simpa [difs] using h1, fun h => by cases h⟩
theorem standing_after_run (k : Nat) (c : Crd Str) (ok : CardOk c) (g : PV) (hg : IsG c g) (es : List En) (h : RowOk c 0 es) (hl : es.length ≤ 100) {y z : Std Str} (hw : walkA c 0 (std0 c) (wk es) = some y) (hr : restA c y 0 = some z) (st : Sto) :
    runF tab (k + 5) f_standing_after [g, eRun es] st = some (.ok (eStd c.cl z) st) := by
  have e1 := start_run (k + 3) c ok g hg st
  have e2 := rests_run (k + 1) c es h hl st
  rw [run_eq (d := d_standing_after) rfl rfl]
  refine finX_of ?_
  have hg0 := hg
  obtain ⟨d1, d2, d3, rfl⟩ := hg
  simp [d_standing_after, b_standing_after, q_fors, e1, e2, enm_map]
  let en (x : Std Str) : BR.Env := [some (eGt c d1 d2 d3), some (eRun es), some (eRow es), some (ePath es), some (mo 0), some (eStd c.cl x), none, none, none]
  refine for_Q (eNum mo) (fun l env σ => ∃ n x b, l = ((difs b (es.drop n)).zipIdx n) ∧ env = en x ∧ σ = st ∧ 0 ≤ b ∧ b ≤ 1000000000 ∧ StdOk c b x ∧ RowOk c b (es.drop n) ∧ walkA c b x (wk (es.drop n)) = some y) _ rfl ⟨0, std0 c, 0, rfl, rfl, rfl, by omega, by omega, std0_ok ok, h, hw⟩ (fun _ _ _ _ => trivial) ?_ ?_
  · rintro env σ ⟨n, x, b, h1, rfl, rfl, h0, h2, h3, h4, h5⟩
    cases hd : es.drop n with
    | cons e r => rw [hd] at h1; cases h1
    | nil =>
      rw [hd] at h5
      cases h5
      have e3 := after_rest_run k c ok _ hg0 y h3.1 0 (fun s _ => ⟨(h3.2 s).1, Z_of (h3.2 s).1 (by have := (h3.2 s).2; omega), Z_of (by have := (h3.2 s).1; omega) (by have := (h3.2 s).2; omega)⟩) (by omega) Z0 σ
      rw [hr] at e3
      simp [en, e3]
      exact finX_S
  · rintro ⟨d, i⟩ l env σ ⟨n, x, b, h1, rfl, rfl, h0, h2, h3, h4, h5⟩ Q hn hr'
    cases hd : es.drop n with
    | nil => rw [hd] at h1; cases h1
    | cons e r =>
      rw [hd] at h1 h4 h5
      simp only [difs, List.zipIdx_cons, List.cons.injEq, Prod.mk.injEq] at h1
      obtain ⟨⟨rfl, rfl⟩, rfl⟩ := h1
      obtain ⟨l1, l2, l3, l4⟩ := h4
      have he : es[i]? = some e := by
        have := congrArg (·[0]?) hd
        simpa using this
      have hd2 : es.drop (i + 1) = r := by
        have := congrArg List.tail hd
        simpa using this
      have e3 := after_rest_run k c ok _ hg0 x h3.1 (e.1 - b) (fun s _ => ⟨(h3.2 s).1, Z_of (h3.2 s).1 (by have := (h3.2 s).2; omega), Z_of (by have := (h3.2 s).1; omega) (by have := (h3.2 s).2; omega)⟩) (by omega) (Z_of (by omega) (by omega)) σ
      simp only [wk, List.map_cons, walkA] at h5
      cases hra : restA c x (e.1 - b) with
      | none => rw [hra] at h5; cases h5
      | some x1 =>
        rw [hra] at h5 e3
        simp only [] at h5
        have k1 := restA_ok h3 l1 hra
        have e4 := after_step_run k c ok _ hg0 x1 k1.1 (fun s _ => (k1.2 s).1) e.2.1 e.2.2 l3 σ
        cases haf : aftA c x1 e.2.2 with
        | none => rw [haf] at h5; cases h5
        | some x2 =>
          rw [haf] at h5 e4
          simp only [] at h5
          have sp := ok.spok _ (List.mem_of_getElem? l3)
          have k2 := aftA_ok k1 (by omega) sp haf
          have e5 := peq_str (a := e.2.2.deed) (b := e.2.2.deed) sp.deed.ok sp.deed.ok
          simp [en, e3, ixPath he, ixRow he, idx_tup (steps_at l3), e5, e4]
          refine hn _ _ ⟨i + 1, x2, e.1, ?_, rfl, rfl, by omega, l2, k2, ?_, ?_⟩
          · rw [hd2]
          · rw [hd2]; exact l4
          · rw [hd2]; exact h5
/-- the end of the run, by the law -/
def endA (c : Crd Str) (es : List En) : Option (Std Str) := (walkA c 0 (std0 c) (wk es)).bind fun y => restA c y 0
end K87
end
section
set_option Elab.async false
set_option linter.all false
set_option maxRecDepth 100000
set_option maxHeartbeats 4000000
/-! W17: the law's walk through a run. -/
namespace K87
open PySem hiding Env exec
open BR KM
theorem run_end_run (k : Nat) (c : Crd Str) (ok : CardOk c) (es : List En) (h : RowOk c 0 es) (hl : es.length ≤ 100) (st : Sto) :
    runF tab (k + 4) f__law_run_end [eCrd c, eRun es] st = some (.ok (eO c.cl (endA c es)) st) := by
  rw [run_eq (d := d__law_run_end) rfl rfl]
  refine finX_of ?_
  have e1 := is_row_run k c es h st
  have e2 := lmoment_run (k + 1) 0 st (by omega)
  have e3 := begin_run (k + 2) c ok st
  simp [d__law_run_end, b__law_run_end, e1, e2, e3, q_fors, rngL_nat _ (show es.length ≤ 1000000 by omega)]
  rw [List.range_eq_range']
  let en (x : PV) (b : Int) : BR.Env := [some (eCrd c), some (eRun es), some x, some (mo b), none, none]
  refine for_Q (fun i : Nat => PV.int i) (fun l env σ => ∃ n x b, n ≤ es.length ∧ l = List.range' n (es.length - n) ∧ env = en (eStd c.cl x) b ∧ σ = st ∧ 0 ≤ b ∧ b ≤ 1000000000 ∧ StdOk c b x ∧ RowOk c b (es.drop n) ∧ endA c es = (walkA c b x (wk (es.drop n))).bind fun y => restA c y 0) _ rfl ⟨0, std0 c, 0, by omega, rfl, rfl, rfl, by omega, by omega, std0_ok ok, h, rfl⟩ (fun _ _ _ _ => trivial) ?_ ?_
  · rintro env σ ⟨n, x, b, hn, h1, rfl, rfl, h0, h2, h3, h4, h5⟩
    have hd : es.drop n = [] := by
      have := congrArg List.length h1
      simp at this
      simp
      omega
    rw [hd] at h5
    simp only [wk, List.map_nil, walkA, Option.bind_some] at h5
    have e3 := rested_run (k) c ok x h3.1 (fun s _ => Z_of (h3.2 s).1 (by have := (h3.2 s).2; omega)) 0 Z0 σ
    simp [en, e3, h5]
    exact finX_S
  · rintro i l env σ ⟨n, x, b, hnn, h1, rfl, rfl, h0, h2, h3, h4, h5⟩ Q hn hr
    have hlt : n < es.length := by
      have := congrArg List.length h1
      simp at this
      omega
    rw [show es.length - n = (es.length - n - 1) + 1 by omega, List.range'_succ] at h1
    simp only [List.cons.injEq] at h1
    obtain ⟨rfl, rfl⟩ := h1
    cases hd : es.drop i with
    | nil =>
      simp at hd
      omega
    | cons e r =>
      rw [hd] at h4 h5
      obtain ⟨l1, l2, l3, l4⟩ := h4
      have he : es[i]? = some e := by
        have := congrArg (·[0]?) hd
        simpa using this
      have hd2 : es.drop (i + 1) = r := by
        have := congrArg List.tail hd
        simpa using this
      have g0 := lwhole_run (k + 2) (e.2.1 : Nat) σ
      have g1 := gap_run (k + 1) b e.1 σ (Z_of h0 h2) (Z_of (by omega) l2)
      have e3 := rested_run k c ok x h3.1 (fun s _ => Z_of (h3.2 s).1 (by have := (h3.2 s).2; omega)) (e.1 - b) (Z_of (by omega) (by omega)) σ
      have hi : e.2.1 < c.steps.length := (List.getElem?_eq_some_iff.mp l3).1
      have n1 : ¬ ((e.2.1 : Nat) : Int) < 0 := by omega
      have n2 : ¬ c.steps.length ≤ e.2.1 := by omega
      have sp := ok.spok _ (List.mem_of_getElem? l3)
      have e5 := peq_str (a := e.2.2.deed) (b := e.2.2.deed) sp.deed.ok sp.deed.ok
      simp only [wk, List.map_cons, walkA] at h5
      simp [en, ixPath he, ixRow he, g0, g1, e3, n1, n2]
      cases hra : restA c x (e.1 - b) with
      | none =>
        rw [hra] at h5
        simp only [Option.bind_none] at h5
        simp
        refine hr _ _ _ ?_
        rw [h5]
        exact finX_S
      | some x1 =>
        rw [hra] at h5
        simp only [] at h5
        have k1 := restA_ok h3 l1 hra
        have e4 := after_run k c ok x1 k1.1 e.2.2 sp σ
        simp [idx_tup (steps_at l3), e5, e4]
        cases haf : aftA c x1 e.2.2 with
        | none =>
          rw [haf] at h5
          simp only [Option.bind_none] at h5
          simp
          refine hr _ _ _ ?_
          rw [h5]
          exact finX_S
        | some x2 =>
          rw [haf] at h5
          simp only [] at h5
          have k2 := aftA_ok k1 (by omega) sp haf
          simp [ixRow he]
          refine hn _ _ ⟨i + 1, x2, e.1, by omega, by congr 1, rfl, rfl, by omega, l2, k2, ?_, ?_⟩
          · rw [hd2]; exact l4
          · rw [hd2]; exact h5
end K87
end
section
set_option Elab.async false
set_option linter.all false
set_option maxRecDepth 100000
set_option maxHeartbeats 4000000
/-! W18: the conditions of a path. -/
namespace K87
open PySem hiding Env exec
open BR KM
/-- the steps of the entries -/
def sps (es : List En) : List (Stp Str) := es.map fun e => e.2.2
/-- every entry names a step -/
def PathOk (c : Crd Str) (es : List En) : Prop := ∀ e ∈ es, c.steps[e.2.1]? = some e.2.2
theorem RowOk.path {c : Crd Str} : ∀ {es : List En} {b : Int}, RowOk c b es → PathOk c es
  | [], _, _, e, m => by cases m
  | a :: r, b, h, e, m => by
    rcases List.mem_cons.mp m with rfl | m
    · exact h.2.2.1
    · exact RowOk.path h.2.2.2 e m
/-- the states along -/
def stl : Str → List En → List Str
  | s, [] => [s]
  | s, e :: r => s :: stl e.2.2.tgt r
theorem idx_last {st : Sto} {xs : List PV} {x : PV} : idxP (st ++ [.lst (xs ++ [x])]) (.ref st.length) (.int (-1)) = some x := by
  have e : idxP (st ++ [.lst (xs ++ [x])]) (.ref st.length) (.int (-1)) = idxO (st ++ [.lst (xs ++ [x])]) (.ref st.length) (.int (-1)) := rfl
  have hn : (st ++ [Cell.lst (xs ++ [x])])[st.length]? = some (.lst (xs ++ [x])) := by simp
  have e1 : seqOf (st ++ [.lst (xs ++ [x])]) (.ref st.length) = some (xs ++ [x]) := by simp only [seqOf, hn]
  rw [e]
  unfold idxO
  simp only [e1]
  exact atP_last (by simp)
@[simp] theorem walked_path (st : Sto) (es : List En) : walked st (ePath es) = some (es.map (fun e => PV.int (e.2.1 : Nat)), none) := rfl
theorem steps_at2 {c : Crd Str} {i : Nat} {p : Stp Str} (h : c.steps[i]? = some p) : (c.steps.map eStp)[i]? = some (.tup [.str p.src, .str p.deed, eTest p.test, .tup (eL p.res), .str p.tgt]) := steps_at h
theorem states_run (k : Nat) (c : Crd Str) (ok : CardOk c) (g : PV) (hg : IsG c g) (es : List En) (hp : PathOk c es) (hc : chn (fst0 c) (sps es)) (hl : es.length ≤ 100) (st : Sto) :
    runF tab (k + 1) f__states_along [g, ePath es] st = some (.ok (.lst (eL (stl (fst0 c) es))) st) := by
  obtain ⟨d1, d2, d3, rfl⟩ := hg
  obtain ⟨p, e, e2, -⟩ := fst0_ok ok
  rw [run_eq (d := d__states_along) rfl rfl]
  refine finX_of ?_
  have e3 : ∀ st, idxP st (.tup (c.sts.map eSta)) (.int 0) = some (eSta p) := fun st => idx_tup (i := 0) (by rw [List.getElem?_map, e]; rfl)
  simp [d__states_along, b__states_along, q_fors, e3, e2]
  let en : BR.Env := [some (eGt c d1 d2 d3), some (ePath es), some (.ref st.length), none, none, none, none]
  refine for_Q (fun e : En => PV.int (e.2.1 : Nat)) (fun l env σ => ∃ dn s, env = en ∧ σ = st ++ [.lst (eL dn ++ [.str s])] ∧ PathOk c l ∧ chn s (sps l) ∧ dn ++ stl s l = stl (fst0 c) es ∧ dn.length + l.length ≤ 100 ∧ s ∈ c.sts.map (·.1)) es rfl ⟨[], fst0 c, rfl, rfl, hp, hc, rfl, by simpa using hl, (std0_ok ok).1⟩ (fun _ _ _ _ => trivial) ?_ ?_
  · rintro env σ ⟨dn, s, rfl, rfl, -, -, h, -⟩
    have e1 : (st ++ [Cell.lst (eL dn ++ [.str s])])[st.length]? = some (.lst (eL dn ++ [.str s])) := by simp
    simp [en]
    rw [frzLst e1 rfl]
    simp
    have e4 : eL dn ++ [PV.str s] = eL (stl (fst0 c) es) := by
      rw [← h]
      simp [eL, stl]
    rw [e4]
    refine finX_E ?_
    rw [pu_lst]
    exact eL_pu _
  · rintro e l env σ ⟨dn, s, rfl, rfl, h1, h2, h3, h4, h5⟩ Q hn hr
    have he := h1 e (by simp)
    obtain ⟨h6, h7⟩ := h2
    have sp := ok.spok _ (List.mem_of_getElem? he)
    obtain ⟨p1, m1, q1⟩ := List.mem_map.mp sp.src
    have e5 := peq_str (a := e.2.2.src) (b := e.2.2.src) (by rw [← q1]; exact (ok.stnm p1 m1).ok) (by rw [← q1]; exact (ok.stnm p1 m1).ok)
    have h6 : e.2.2.src = s := h6
    subst h6
    have e6 := fun (env : BR.Env) (v : PV) => app_end (env := env) (st := st) (xs := eL dn ++ [.str e.2.2.src]) v (by simp at h4 ⊢; omega)
    simp [en, idx_tup (steps_at2 he), idx_last, e5, e6]
    refine hn _ _ ⟨dn ++ [e.2.2.src], e.2.2.tgt, rfl, by simp [eL], fun e m => h1 e (by simp [m]), h7, by rw [← h3]; simp [stl], by simp at h4 ⊢; omega, sp.tgt⟩
theorem revL_nat (n : Nat) (h : n ≤ 1000000) (st : Sto) : revL (.int n) st = some (.ok ((List.range n).reverse.map (fun (i : Nat) => PV.int (i : Int)), none) st) := by
  unfold revL
  simp only []
  rw [if_pos (by omega), rng_map, List.map_reverse]
theorem last_reset_run (k : Nat) (c : Crd Str) (g : PV) (hg : IsG c g) (es : List En) (hp : PathOk c es) (n : Nat) (hn : n ≤ es.length) (hl : es.length ≤ 100) (s : Str) (hs : s ∈ c.cl) (st : Sto) :
    runF tab (k + 1) f_last_reset [g, ePath es, .int n, .int ((c.cl.idxOf s : Nat) + 1)] st = some (.ok (.int (lr (sps es) n s : Nat)) st) := by
  obtain ⟨d1, d2, d3, rfl⟩ := hg
  rw [run_eq (d := d_last_reset) rfl rfl]
  refine finX_of ?_
  have e1 : ∀ st, idxP st (.tpd (eL c.cl)) (.int (c.cl.idxOf s : Nat)) = some (.str s) := fun st => idx_tpd (map_idx hs PV.str)
  have e2 : ((c.cl.idxOf s : Nat) : Int) + 1 - 1 = (c.cl.idxOf s : Nat) := by omega
  simp [d_last_reset, b_last_reset, q_fors, e2, e1, revL_nat n (by omega)]
  let en : BR.Env := [some (eGt c d1 d2 d3), some (ePath es), some (.int n), some (.int ((c.cl.idxOf s : Nat) + 1)), some (.str s), none]
  refine for_Q (fun i : Nat => PV.int i) (fun l env σ => ∃ j, l = (List.range j).reverse ∧ j ≤ n ∧ env = en ∧ σ = st ∧ lr (sps es) n s = lr (sps es) j s) ((List.range n).reverse) (by rw [List.map_reverse]) ⟨n, rfl, by omega, rfl, rfl, rfl⟩ (fun _ _ _ _ => trivial) ?_ ?_
  · rintro env σ ⟨j, h1, h2, rfl, rfl, h3⟩
    have hj : j = 0 := by
      have := congrArg List.length h1
      simp at this
      omega
    subst hj
    rw [h3]
    simp [en, lr]
    exact finX_S
  · rintro i l env σ ⟨j, h1, h2, rfl, rfl, h3⟩ Q hn' hr
    cases j with
    | zero => cases h1
    | succ j =>
      rw [List.range_succ, List.reverse_append] at h1
      simp only [List.reverse_cons, List.reverse_nil, List.nil_append, List.singleton_append, List.cons.injEq] at h1
      obtain ⟨rfl, rfl⟩ := h1
      have he : es[i]? = some es[i] := List.getElem?_eq_getElem (by omega)
      have hs' : (sps es)[i]? = some es[i].2.2 := by unfold sps; rw [List.getElem?_map, he]; rfl
      have hp' := hp es[i] (List.getElem_mem _)
      rw [lr] at h3
      simp only [hs'] at h3
      simp [en, ixPath he, idx_tup (steps_at hp')]
      by_cases hm : s ∈ es[i].2.2.res
      · rw [if_pos hm] at h3
        simp [hm]
        refine hr _ _ _ ?_
        rw [h3]
        simp
        exact finX_S
      · rw [if_neg hm] at h3
        simp [hm]
        exact hn' _ _ ⟨i, rfl, by omega, rfl, rfl, h3⟩
end K87
end
section
set_option Elab.async false
set_option linter.all false
set_option maxRecDepth 100000
set_option maxHeartbeats 4000000
/-! W19: the conditions of a path, second part. -/
namespace K87
open PySem hiding Env exec
open BR KM
def eCn (q : Cnd) : PV := .tup [.int (q.i : Nat), .int (q.j : Nat), eE q.e]
theorem cn_pu (q : Cnd) : PV.pu (eCn q) = true := rfl
theorem cns_pu (l : List Cnd) : PV.pus (l.map eCn) = true := pus_map _ _ fun q _ => cn_pu q
theorem span_caps_run (k : Nat) (s : Span) (st : Sto) : runF tab (k + 1) f_span_caps [eSp s] st = some (.ok (.tup [eC s.2, eE (-s.1.1, s.1.2)]) st) := by
  rw [run_eq (d := d_span_caps) rfl rfl]
  simp [d_span_caps, b_span_caps]
  rfl
theorem test_cond_run (k : Nat) (c : Crd Str) (g : PV) (hg : IsG c g) (es : List En) (hp : PathOk c es) (n : Nat) (hn : n ≤ es.length) (hl : es.length ≤ 100) (t : List (Str × Span)) (ht : ∀ q ∈ t, q.1 ∈ c.cl) (htl : t.length ≤ 100) (st : Sto) :
    runF tab (k + 2) f__test_conditions [g, ePath es, .int n, eTest t] st = some (.ok (.lst ((tCo (sps es) n t).map eCn)) st) := by
  have hg0 := hg
  obtain ⟨d1, d2, d3, rfl⟩ := hg
  rw [run_eq (d := d__test_conditions) rfl rfl]
  refine finX_of ?_
  simp [d__test_conditions, b__test_conditions, q_fors]
  let en : BR.Env := [some (eGt c d1 d2 d3), some (ePath es), some (.int n), some (eTest t), some (.ref st.length), none, none, none, none, none]
  refine for_Q (ePr eSp) (fun l env σ => ∃ dn : List Cnd, env = en ∧ σ = st ++ [.lst (dn.map eCn)] ∧ (∀ q ∈ l, q.1 ∈ c.cl) ∧ dn ++ tCo (sps es) n l = tCo (sps es) n t ∧ dn.length + 2 * l.length ≤ 200) t rfl ⟨[], rfl, rfl, ht, rfl, by simp; omega⟩ (fun _ _ _ _ => trivial) ?_ ?_
  · rintro env σ ⟨dn, rfl, rfl, -, h, -⟩
    have e1 : (st ++ [Cell.lst (dn.map eCn)])[st.length]? = some (.lst (dn.map eCn)) := by simp
    simp [en]
    rw [frzLst e1 rfl]
    simp
    rw [show dn = tCo (sps es) n t by rw [← h]; simp [tCo]]
    refine finX_E ?_
    rw [pu_lst]
    exact cns_pu _
  · rintro ⟨s, sp⟩ l env σ ⟨dn, rfl, rfl, h1, h2, h3⟩ Q hn' hr
    have hs := h1 (s, sp) (by simp)
    simp only [] at hs
    have e1 := fun σ => clock_run k c _ hg0 s hs σ
    have e2 := fun σ => last_reset_run k c _ hg0 es hp n hn hl s hs σ
    have e3 := fun σ => span_caps_run k sp σ
    have e4 := fun (env : BR.Env) (v : PV) => app_end (env := env) (st := st) (xs := dn.map eCn) v (by simp at h3 ⊢; omega)
    simp [en, e1, e2, e3, e4]
    have q1 : dn.map eCn ++ [.tup [.int (lr (sps es) n s : Nat), .int ((n : Int) + 1), eE (-sp.1.1, sp.1.2)]] = (dn ++ [Cnd.mk (lr (sps es) n s) (n + 1) (-sp.1.1, sp.1.2)]).map eCn := by simp [eCn]
    obtain ⟨lo, hi⟩ := sp
    cases hi with
    | none =>
      simp
      rw [q1]
      exact hn' _ _ ⟨_, rfl, rfl, fun q m => h1 q (by simp [m]), by rw [← h2]; simp [tCo], by simp at h3 ⊢; omega⟩
    | some hi =>
      simp only [] at q1
      have e5 := fun (env : BR.Env) (v : PV) => app_end (env := env) (st := st) (xs := (dn ++ [Cnd.mk (lr (sps es) n s) (n + 1) (-lo.1, lo.2)]).map eCn) v (by simp at h3 ⊢; omega)
      simp
      rw [q1, e5]
      simp only [stm_ok, sq_nx]
      have q2 : (dn ++ [Cnd.mk (lr (sps es) n s) (n + 1) (-lo.1, lo.2)]).map eCn ++ [.tup [.int ((n : Int) + 1), .int (lr (sps es) n s : Nat), eE hi]] = (dn ++ [Cnd.mk (lr (sps es) n s) (n + 1) (-lo.1, lo.2), Cnd.mk (n + 1) (lr (sps es) n s) hi]).map eCn := by simp [eCn]
      rw [q2]
      simp
      refine hn' _ _ ⟨dn ++ [Cnd.mk (lr (sps es) n s) (n + 1) (-lo.1, lo.2), Cnd.mk (n + 1) (lr (sps es) n s) hi], rfl, by simp, fun q m => h1 q (by simp [m]), by rw [← h2]; simp [tCo], by simp at h3 ⊢; omega⟩
theorem stay_cond_run (k : Nat) (c : Crd Str) (ok : CardOk c) (g : PV) (hg : IsG c g) (es : List En) (hp : PathOk c es) (n : Nat) (hn : n ≤ es.length) (hl : es.length ≤ 100) (s : Str) (hs : s ∈ c.sts.map (·.1)) (st : Sto) :
    runF tab (k + 3) f__stay_conditions [g, ePath es, .int n, .str s] st = some (.ok (.lst ((sCo (sps es) n (stOf c.sts s)).map eCn)) st) := by
  have hg0 := hg
  have e0 := fun σ => stay_run k c g hg s hs σ
  have hst : (∀ q ∈ stOf c.sts s, q.1 ∈ c.cl) ∧ (stOf c.sts s).length ≤ 6 := by
    have h := List.mem_of_getElem? (stOf_at hs)
    exact ⟨fun q m => (ok.stok _ h).mem q m, (ok.stok _ h).len⟩
  obtain ⟨d1, d2, d3, rfl⟩ := hg
  rw [run_eq (d := d__stay_conditions) rfl rfl]
  refine finX_of ?_
  simp [d__stay_conditions, b__stay_conditions, q_fors, e0]
  let en : BR.Env := [some (eGt c d1 d2 d3), some (ePath es), some (.int n), some (.str s), some (.ref st.length), none, none, none]
  refine for_Q (ePr eE) (fun l env σ => ∃ dn : List Cnd, env = en ∧ σ = st ++ [.lst (dn.map eCn)] ∧ (∀ q ∈ l, q.1 ∈ c.cl) ∧ dn ++ sCo (sps es) n l = sCo (sps es) n (stOf c.sts s) ∧ dn.length + l.length ≤ 6) (stOf c.sts s) rfl ⟨[], rfl, rfl, hst.1, rfl, by simpa using hst.2⟩ (fun _ _ _ _ => trivial) ?_ ?_
  · rintro env σ ⟨dn, rfl, rfl, -, h, -⟩
    have e1 : (st ++ [Cell.lst (dn.map eCn)])[st.length]? = some (.lst (dn.map eCn)) := by simp
    simp [en]
    rw [frzLst e1 rfl]
    simp
    rw [show dn = sCo (sps es) n (stOf c.sts s) by rw [← h]; simp [sCo]]
    refine finX_E ?_
    rw [pu_lst]
    exact cns_pu _
  · rintro ⟨s, ed⟩ l env σ ⟨dn, rfl, rfl, h1, h2, h3⟩ Q hn' hr
    have hs := h1 (s, ed) (by simp)
    simp only [] at hs
    have e1 := fun σ => clock_run (k + 1) c _ hg0 s hs σ
    have e2 := fun σ => last_reset_run (k + 1) c _ hg0 es hp n hn hl s hs σ
    have e4 := fun (env : BR.Env) (v : PV) => app_end (env := env) (st := st) (xs := dn.map eCn) v (by simp at h3 ⊢; omega)
    simp [en, e1, e2, e4]
    have q1 : dn.map eCn ++ [.tup [.int ((n : Int) + 1), .int (lr (sps es) n s : Nat), eE ed]] = (dn ++ [Cnd.mk (n + 1) (lr (sps es) n s) ed]).map eCn := by simp [eCn]
    rw [q1]
    exact hn' _ _ ⟨_, rfl, rfl, fun q m => h1 q (by simp [m]), by rw [← h2]; simp [sCo], by simp at h3 ⊢; omega⟩
end K87
end
section
set_option Elab.async false
set_option linter.all false
set_option maxRecDepth 100000
set_option maxHeartbeats 4000000
/-! W20: path_conditions. -/
namespace K87
open PySem hiding Env exec
open BR KM
theorem ext_end {env : BR.Env} {st : Sto} {xs ys : List PV} (h : xs.length + ys.length ≤ 10000) : extP env (st ++ [.lst xs]) (.ref st.length) (.lst ys) = some (.ok .nx env (st ++ [.lst (xs ++ ys)])) := by
  unfold extP
  simp
  rw [sizeLine_eq]
  omega
theorem tCo_len (sp : List (Stp Str)) (n : Nat) (t : List (Str × Span)) : (tCo sp n t).length ≤ 2 * t.length := by
  unfold tCo
  induction t with
  | nil => simp
  | cons a t ih =>
    rw [List.flatMap_cons, List.length_append]
    cases a.2.2 with
    | none => simp at ih ⊢; omega
    | some e => simp at ih ⊢; omega
theorem stOf_len {c : Crd Str} (ok : CardOk c) {s : Str} (hs : s ∈ c.sts.map (·.1)) : (stOf c.sts s).length ≤ 6 := (ok.stok _ (List.mem_of_getElem? (stOf_at hs))).len
theorem cds_len {c : Crd Str} (ok : CardOk c) (sp : List (Stp Str)) : ∀ (es : List En) (n : Nat) (s : Str), PathOk c es → s ∈ c.sts.map (·.1) → (cds c sp n s (sps es)).length ≤ 19 * es.length + 6
  | [], n, s, _, hs => by
    have := stOf_len ok hs
    simp [sps, cds, sCo]
    omega
  | e :: es, n, s, hp, hs => by
    have h1 := stOf_len ok hs
    have so := ok.spok _ (List.mem_of_getElem? (hp e (by simp)))
    have h2 := cds_len ok sp es (n + 1) e.2.2.tgt (fun e m => hp e (by simp [m])) so.tgt
    have h3 := tCo_len sp n e.2.2.test
    have h4 := so.test.len
    simp only [sps, List.map_cons, cds, List.length_append, List.length_cons, sCo, List.length_map] at h2 ⊢
    omega
theorem conditions_run (k : Nat) (c : Crd Str) (ok : CardOk c) (g : PV) (hg : IsG c g) (es : List En) (hp : PathOk c es) (hc : chn (fst0 c) (sps es)) (hl : es.length ≤ 100) (st : Sto) :
    runF tab (k + 4) f_path_conditions [g, ePath es] st = some (.ok (.tup ((cds c (sps es) 0 (fst0 c) (sps es)).map eCn)) st) := by
  have e0 := states_run (k + 2) c ok g hg es hp hc hl st
  have hg0 := hg
  obtain ⟨d1, d2, d3, rfl⟩ := hg
  rw [run_eq (d := d_path_conditions) rfl rfl]
  refine finX_of ?_
  have enl : ∀ (st : Sto) (l : List Str), enmL (.lst (eL l)) st = some (.ok (l.zipIdx.map (eNum PV.str), none) st) := fun st l => by simp [eL, enm_map]
  have in_ : ∀ (l : List Str), isNon (.lst (eL l)) = false := fun _ => rfl
  simp [d_path_conditions, b_path_conditions, q_fors, e0, enl, in_]
  have tl := cds_len ok (sps es) es 0 (fst0 c) hp (std0_ok ok).1
  let en : BR.Env := [some (eGt c d1 d2 d3), some (ePath es), some (.lst (eL (stl (fst0 c) es))), some (.ref st.length), none, none]
  refine for_Q (eNum PV.str) (fun l env σ => ∃ dn : List Cnd, env = en ∧ σ = st ++ [.lst (dn.map eCn)] ∧ ((∃ n s, n ≤ es.length ∧ l = (stl s (es.drop n)).zipIdx n ∧ dn ++ cds c (sps es) n s (sps (es.drop n)) = cds c (sps es) 0 (fst0 c) (sps es) ∧ s ∈ c.sts.map (·.1)) ∨ (l = [] ∧ dn = cds c (sps es) 0 (fst0 c) (sps es)))) _ rfl ⟨[], rfl, rfl, .inl ⟨0, fst0 c, by omega, rfl, rfl, (std0_ok ok).1⟩⟩ (fun _ _ _ _ => trivial) ?_ ?_
  · rintro env σ ⟨dn, rfl, rfl, h⟩
    have e1 : (st ++ [Cell.lst (dn.map eCn)])[st.length]? = some (.lst (dn.map eCn)) := by simp
    have hd : dn = cds c (sps es) 0 (fst0 c) (sps es) := by
      rcases h with ⟨n, s, -, h, -⟩ | ⟨-, h⟩
      · cases hh : es.drop n <;> rw [hh] at h <;> cases h
      · exact h
    simp [en, tuple_ref e1]
    rw [← hd]
    refine finX_E ?_
    rw [pu_tup]
    exact cns_pu _
  · rintro ⟨s0, i⟩ l env σ ⟨dn, rfl, rfl, h⟩ Q hn hr
    rcases h with ⟨n, s, hnl, h1, h2, hs⟩ | ⟨h, -⟩
    rotate_left
    · cases h
    have hdl : dn.length ≤ 2000 := by
      have := congrArg List.length h2
      simp only [List.length_append] at this
      omega
    cases hd : es.drop n with
    | nil =>
      rw [hd] at h1 h2
      simp only [stl, List.zipIdx_cons, List.zipIdx_nil, List.cons.injEq, Prod.mk.injEq] at h1
      obtain ⟨⟨rfl, rfl⟩, rfl⟩ := h1
      have hlen : i = es.length := by
        simp at hd
        omega
      have n1 : ¬ (i : Int) < es.length := by omega
      have e1 := fun σ => stay_cond_run k c ok _ hg0 es hp i hnl hl s0 hs σ
      have e2 := fun (env : BR.Env) => ext_end (env := env) (st := st) (xs := dn.map eCn) (ys := (sCo (sps es) i (stOf c.sts s0)).map eCn) (by
        have := stOf_len ok hs
        simp [sCo]
        omega)
      simp [en, n1, e1, e2]
      refine hn _ _ ⟨dn ++ sCo (sps es) i (stOf c.sts s0), rfl, by simp, .inr ⟨rfl, ?_⟩⟩
      rw [← h2]
      simp [sps, cds]
    | cons e r =>
      rw [hd] at h1 h2
      simp only [stl, List.zipIdx_cons, List.cons.injEq, Prod.mk.injEq] at h1
      obtain ⟨⟨rfl, rfl⟩, rfl⟩ := h1
      have hlt : i < es.length := by
        have := congrArg List.length hd
        simp at this
        omega
      have n1 : (i : Int) < es.length := by omega
      have he : es[i]? = some e := by
        have := congrArg (·[0]?) hd
        simpa using this
      have hd2 : es.drop (i + 1) = r := by
        have := congrArg List.tail hd
        simpa using this
      have hp' := hp e (List.mem_of_getElem? he)
      have so := ok.spok _ (List.mem_of_getElem? hp')
      have e1 := fun σ => stay_cond_run k c ok _ hg0 es hp i hnl hl s0 hs σ
      have e3 := fun σ => test_cond_run (k + 1) c _ hg0 es hp i hnl hl e.2.2.test so.test.mem (by have := so.test.len; omega) σ
      have l3 := tCo_len (sps es) i e.2.2.test
      have l4 := so.test.len
      have l5 := stOf_len ok hs
      have e4 := fun (env : BR.Env) (v : PV) => app_end (env := env) (st := st) (xs := dn.map eCn) v (by simp; omega)
      have e5 := fun (env : BR.Env) => ext_end (env := env) (st := st) (xs := dn.map eCn ++ [eCn (Cnd.mk (i + 1) (i + 2) (0, 1))]) (ys := (tCo (sps es) i e.2.2.test).map eCn) (by simp; omega)
      have e6 := fun (env : BR.Env) => ext_end (env := env) (st := st) (xs := dn.map eCn ++ eCn (Cnd.mk (i + 1) (i + 2) (0, 1)) :: (tCo (sps es) i e.2.2.test).map eCn) (ys := (sCo (sps es) i (stOf c.sts s0)).map eCn) (by simp [sCo]; omega)
      have q1 : dn.map eCn ++ [.tup [.int ((i : Int) + 1), .int ((i : Int) + 2), .tup [.int 0, .int 1]]] = dn.map eCn ++ [eCn (Cnd.mk (i + 1) (i + 2) (0, 1))] := by simp [eCn]; rfl
      simp [en, n1, e1, e3, e4, ixPath he, idx_tup (steps_at hp')]
      rw [q1]
      simp [e1, e5, e6]
      refine hn _ _ ⟨dn ++ Cnd.mk (i + 1) (i + 2) (0, 1) :: (tCo (sps es) i e.2.2.test ++ sCo (sps es) i (stOf c.sts s0)), rfl, by simp, .inl ⟨i + 1, e.2.2.tgt, by omega, by rw [hd2], ?_, so.tgt⟩⟩
      rw [hd2, ← h2]
      simp [sps, cds]
end K87
end
section
set_option Elab.async false
set_option linter.all false
set_option maxRecDepth 100000
set_option maxHeartbeats 4000000
/-! W21: tables. -/
namespace K87
open PySem hiding Env exec
open BR KM
@[simp] theorem intO_int (i : Int) : intO (.int i) = some i := rfl
@[simp] theorem asg_eCn (i j m : Nat) (q : Cnd) (env : BR.Env) : asg (.tup (.cons (.nm i) (.cons (.nm j) (.cons (.nm m) .nil)))) (eCn q) env = some (((env.set i (some (.int q.i))).set j (some (.int q.j))).set m (some (eE q.e))) := by
  unfold eCn
  simp
@[simp] theorem isi_eCn (q : Cnd) : isiP (eCn q) .tuple = some true := rfl
@[simp] theorem len_eCn (st : Sto) (q : Cnd) : bltf st .len [eCn q] = some (.int 3) := rfl
@[simp] theorem lt_eE (st : Sto) (a b : Edge) : cmpo st .lt (eE a) (eE b) = some (eLt a b) := by
  have e : cmpo st .lt (eE a) (eE b) = some (HT.lexLt [a.1, a.2] [b.1, b.2]) := rfl
  rw [e]
  congr 1
  rw [Bool.eq_iff_iff, eLt_iff, HT.lexLt_cons, HT.lexLt_cons, HT.lexLt_nil_nil]
  by_cases h1 : a.1 = b.1
  · by_cases h2 : a.2 = b.2
    · simp [h1, h2]
    · simp [h1, h2]
  · simp [h1]
theorem glbNM : tab.glb 15 = some (eE (0, 1)) := rfl
theorem least_run (k : Nat) (a b : Option Edge) (st : Sto) : runF tab (k + 1) f_least_cap [eC a, eC b] st = some (.ok (eC (least2 a b)) st) := by
  rw [run_eq (d := d_least_cap) rfl rfl]
  cases a with
  | none =>
    cases b with
    | none => simp [d_least_cap, b_least_cap, q_fors, forL, least2]
    | some b => simp [d_least_cap, b_least_cap, q_fors, forL, least2]
  | some a =>
    cases b with
    | none => simp [d_least_cap, b_least_cap, q_fors, forL, least2]
    | some b =>
      cases h : eLt b a with
      | true => simp [d_least_cap, b_least_cap, q_fors, forL, least2, h]
      | false => simp [d_least_cap, b_least_cap, q_fors, forL, least2, h]
/-- a condition on n clocks -/
def CnOk (n : Nat) (q : Cnd) : Prop := q.i ≤ n ∧ q.j ≤ n ∧ Le q.e
theorem is_cond_run (k : Nat) (n : Nat) (q : Cnd) (h : CnOk n q) (st : Sto) : runF tab (k + 4) f_is_condition [.int n, eCn q] st = some (.ok (.bl true) st) := by
  rw [run_eq (d := d_is_condition) rfl rfl]
  obtain ⟨h1, h2, h3⟩ := h
  have e := is_cap_run k (some q.e) st (fun e m => by cases m; exact h3)
  have g := fun i => whole_run (k + 2) i st
  simp only [eC_some] at e
  have b1 : (q.i : Int) ≤ n := by omega
  have b2 : (q.j : Int) ≤ n := by omega
  simp [d_is_condition, b_is_condition, e, g, h1, h2]
def rowP (N : Nat) (f : Nat → Option Edge) : PV := .tup ((List.range N).map fun j => eC (f j))
def eTb (N : Nat) (t : Tb) : PV := .tup ((List.range N).map fun i => rowP N (t i))
theorem ixRowP {N : Nat} {f : Nat → Option Edge} {j : Nat} (h : j < N) (st : Sto) : idxP st (rowP N f) (.int (j : Nat)) = some (eC (f j)) := idx_tup (by simp [h])
theorem ixTb {N : Nat} {t : Tb} {i : Nat} (h : i < N) (st : Sto) : idxP st (eTb N t) (.int (i : Nat)) = some (rowP N (t i)) := idx_tup (by simp [h])
@[simp] theorem len_rowP (st : Sto) (N : Nat) (f : Nat → Option Edge) : bltf st .len [rowP N f] = some (.int N) := by
  unfold rowP
  simp
@[simp] theorem len_eTb (st : Sto) (N : Nat) (f : Tb) : bltf st .len [eTb N f] = some (.int N) := by
  unfold eTb
  simp
@[simp] theorem isi_rowP (N : Nat) (f : Nat → Option Edge) : isiP (rowP N f) .tuple = some true := rfl
@[simp] theorem isi_eTb (N : Nat) (f : Tb) : isiP (eTb N f) .tuple = some true := rfl
/-- one item changed, by slices -/
theorem cut_set {α : Type} {N j : Nat} (f : Nat → α) (y : α) (h : j < N) : (((List.range N).map f).take j ++ [y]) ++ ((List.range N).map f).drop (j + 1) = (List.range N).map fun b => if b = j then y else f b := by
  apply List.ext_getElem
  · simp
    omega
  · intro n h1 h2
    simp at h2
    rcases Nat.lt_trichotomy n j with c | c | c
    · rw [List.getElem_append_left (by simp; omega), List.getElem_append_left (by simp; omega)]
      have : ¬ n = j := by omega
      simp [this]
    · subst c
      rw [List.getElem_append_left (by simp; omega), List.getElem_append_right (by simp; omega)]
      simp
    · rw [List.getElem_append_right (by simp; omega)]
      have : ¬ n = j := by omega
      simp [this]
      congr 1
      omega
theorem sliH_tup (st : Sto) (xs : List PV) (j : Nat) (h : j ≤ xs.length) : sliP st (.tup xs) none (some (j : Int)) = some (.tup (xs.take j)) := by
  show some (PV.tup (cutP xs none (some (j : Int)))) = _
  unfold cutP
  rw [HT.sIx_none, HT.sIx_nat, List.drop_zero, Nat.min_eq_left h, Nat.sub_zero]
theorem sliL_tup (st : Sto) (xs : List PV) (j : Nat) (h : j ≤ xs.length) : sliP st (.tup xs) (some (j : Int)) none = some (.tup (xs.drop j)) := by
  show some (PV.tup (cutP xs (some (j : Int)) none)) = _
  unfold cutP
  rw [HT.sIx_none, HT.sIx_nat, Nat.min_eq_left h, List.take_of_length_le (by simp)]
theorem add_tup (xs ys : List PV) (h : xs.length + ys.length ≤ 10000) : bin2 .add (.tup xs) (.tup ys) = some (.tup (xs ++ ys)) := by
  show (if xs.length + ys.length ≤ sizeLine then some (PV.tup (xs ++ ys)) else none) = _
  rw [if_pos (by rw [sizeLine_eq]; omega)]
theorem tight_run (k : Nat) (N : Nat) (hN : N ≤ 1000) (t0 : Tb) (qs : List Cnd) (h : ∀ q ∈ qs, q.i < N ∧ q.j < N) (st : Sto) : runF tab (k + 2) f_tightened [eTb N t0, .tup (qs.map eCn)] st = some (.ok (eTb N (qs.foldl tigF t0)) st) := by
  rw [run_eq (d := d_tightened) rfl rfl]
  refine finX_of ?_
  simp [d_tightened, b_tightened, q_fors]
  let en (t : Tb) : BR.Env := [some (eTb N t0), some (.tup (qs.map eCn)), some (eTb N t), none, none, none, none]
  refine for_Q eCn (fun l env σ => ∃ t, env = en t ∧ σ = st ∧ (∀ q ∈ l, q.i < N ∧ q.j < N) ∧ l.foldl tigF t = qs.foldl tigF t0) qs rfl ⟨t0, rfl, rfl, h, rfl⟩ (fun _ _ _ _ => trivial) ?_ ?_
  · rintro env σ ⟨t, rfl, rfl, -, e⟩
    simp [en]
    rw [← e]
    exact finX_S
  · rintro q l env σ ⟨t, rfl, rfl, h1, h2⟩ Q hn hr
    obtain ⟨hi, hj⟩ := h1 q (by simp)
    have e1 := least_run k (t q.i q.j) (some q.e) σ
    simp only [eC_some] at e1
    simp [en, ixTb hi, ixRowP hj, e1]
    have a1 : sliP σ (rowP N (t q.i)) none (some (q.j : Int)) = some (.tup (((List.range N).map fun j => eC (t q.i j)).take q.j)) := sliH_tup σ _ _ (by simp; omega)
    have a2 : sliP σ (rowP N (t q.i)) (some ((q.j : Int) + 1)) none = some (.tup (((List.range N).map fun j => eC (t q.i j)).drop (q.j + 1))) := sliL_tup σ _ (q.j + 1) (by simp; omega)
    have a3 : sliP σ (eTb N t) none (some (q.i : Int)) = some (.tup (((List.range N).map fun i => rowP N (t i)).take q.i)) := sliH_tup σ _ _ (by simp; omega)
    have a4 : sliP σ (eTb N t) (some ((q.i : Int) + 1)) none = some (.tup (((List.range N).map fun i => rowP N (t i)).drop (q.i + 1))) := sliL_tup σ _ (q.i + 1) (by simp; omega)
    have b1 := add_tup (((List.range N).map fun j => eC (t q.i j)).take q.j) [eC (least2 (t q.i q.j) (some q.e))] (by simp; omega)
    have b2 := add_tup (((List.range N).map fun j => eC (t q.i j)).take q.j ++ [eC (least2 (t q.i q.j) (some q.e))]) (((List.range N).map fun j => eC (t q.i j)).drop (q.j + 1)) (by simp; omega)
    rw [cut_set _ _ hj] at b2
    have c1 := add_tup (((List.range N).map fun i => rowP N (t i)).take q.i) [.tup ((List.range N).map fun b => if b = q.j then eC (least2 (t q.i q.j) (some q.e)) else eC (t q.i b))] (by simp; omega)
    have c2 := add_tup (((List.range N).map fun i => rowP N (t i)).take q.i ++ [.tup ((List.range N).map fun b => if b = q.j then eC (least2 (t q.i q.j) (some q.e)) else eC (t q.i b))]) (((List.range N).map fun i => rowP N (t i)).drop (q.i + 1)) (by simp; omega)
    rw [cut_set _ _ hi] at c2
    simp [a1, b1, a2, b2, a3, a4, c1, c2, e1]
    have e5 : (PV.tup ((List.range N).map fun b => if b = q.i then PV.tup ((List.range N).map fun b => if b = q.j then eC (least2 (t q.i q.j) (some q.e)) else eC (t q.i b)) else rowP N (t b))) = eTb N (tigF t q) := by
      unfold eTb
      congr 1
      apply List.map_congr_left
      intro a _
      unfold rowP tigF
      by_cases ha : a = q.i
      · subst ha
        rw [if_pos rfl]
        congr 1
        apply List.map_congr_left
        intro b _
        by_cases hb : b = q.j
        · subst hb
          simp
        · simp [hb]
      · simp [ha]
    rw [e5]
    exact hn _ _ ⟨tigF t q, rfl, rfl, fun q' m => h1 q' (by simp [m]), h2⟩
end K87
end
section
set_option Elab.async false
set_option linter.all false
set_option maxRecDepth 100000
set_option maxHeartbeats 4000000
/-! W22: tables, second part. -/
namespace K87
open PySem hiding Env exec
open BR KM
@[simp] theorem xs_star {T : Tab} {Φ : Phi} {env : BR.Env} {st : Sto} (e : E) (es : Es) : evs T Φ (.star e es) env st = bnd (ev T Φ e env st) fun x st => match seqOf st x with
    | some ys => bnd (evs T Φ es env st) fun xs st => some (.ok (ys ++ xs) st)
    | none => none := by
  simp only [evs] <;> rfl
@[simp] theorem seq_tup (st : Sto) (xs : List PV) : seqOf st (.tup xs) = some xs := rfl
@[simp] theorem seq_lst (st : Sto) (xs : List PV) : seqOf st (.lst xs) = some xs := rfl
theorem mul_lst (x : PV) (n : Nat) (h : n ≤ 10000) : bin2 .mul (.lst [x]) (.int (n : Int)) = some (.lst (List.replicate n x)) := by
  show (if 0 ≤ (n : Int) ∧ (n : Int) < 1000000 ∧ [x].length * (n : Int).toNat ≤ sizeLine then some (PV.lst (List.replicate (n : Int).toNat [x]).flatten) else none) = _
  rw [if_pos ⟨by omega, by omega, by rw [sizeLine_eq]; simp; omega⟩]
  simp
theorem rep_map {α : Type} (n : Nat) (x : α) : List.replicate n x = (List.range n).map fun _ => x := by
  rw [List.map_const', List.length_range]
theorem noT_tb (N : Nat) : PV.tup (List.replicate N (.tup (List.replicate N .non))) = eTb N noT := by
  unfold eTb rowP noT
  rw [rep_map, rep_map]
  rfl
theorem pars_star {d : Fd} (h1 : d.star = true) {n : Nat} (h2 : d.np = n) {a b : List PV} (hl : a.length = n) (hb : b.length ≤ 10000) : pars d (a ++ b) = some ((a.map some ++ [some (.tup b)]) ++ List.replicate (d.ns - (n + 1)) none) := by
  unfold pars
  rw [if_pos h1, h2, if_pos ⟨by rw [List.length_append]; omega, by rw [List.length_append, sizeLine_eq]; omega⟩, ← hl, List.take_left' rfl, List.drop_left' rfl]
theorem table_with_aux (k : Nat) (n : Nat) (z : Int) (hz : z = n) (hn : n ≤ 500) (qs : List Cnd) (h : ∀ q ∈ qs, CnOk n q) (hl : qs.length ≤ 5000) (st : Sto) : runF tab (k + 5) f_table_with (.int z :: qs.map eCn) st = some (.ok (eTb (n + 1) (qs.foldl tigF noT)) st) := by
  have hp : pars d_table_with (.int z :: qs.map eCn) = some [some (.int z), some (.tup (qs.map eCn)), none, none] := by
    have := pars_star (d := d_table_with) rfl (n := 1) rfl (a := [.int z]) (b := qs.map eCn) rfl (by simp; omega)
    exact this
  rw [run_eq (d := d_table_with) rfl hp]
  refine finX_of ?_
  have e0 := tight_run (k + 2) (n + 1) (by omega) noT qs (fun q m => by obtain ⟨a, b, _⟩ := h q m; omega) st
  have e1 : bin2 .mul (.lst [.non]) (.int (z + 1)) = some (.lst (List.replicate (n + 1) .non)) := by
    rw [hz]
    exact mul_lst .non (n + 1) (by omega)
  have e2 : bin2 .mul (.lst [.tup (List.replicate (n + 1) .non)]) (.int (z + 1)) = some (.lst (List.replicate (n + 1) (.tup (List.replicate (n + 1) .non)))) := by
    rw [hz]
    exact mul_lst _ (n + 1) (by omega)
  have e3 : ∀ q, CnOk n q → ∀ σ, runF tab (k + 4) f_is_condition [.int z, eCn q] σ = some (.ok (.bl true) σ) := fun q hq σ => by
    rw [hz]
    exact is_cond_run k n q hq σ
  clear hz hp
  have e4 := noT_tb (n + 1)
  generalize hB : List.replicate (n + 1) (PV.tup (List.replicate (n + 1) .non)) = B at *
  generalize hA : List.replicate (n + 1) PV.non = A at *
  generalize eTb (n + 1) noT = C at *
  simp [d_table_with, b_table_with, q_fors]
  let en : BR.Env := [some (.int z), some (.tup (qs.map eCn)), none, none]
  refine for_Q eCn (fun l env σ => env = en ∧ σ = st ∧ ∀ q ∈ l, CnOk n q) qs rfl ⟨rfl, rfl, h⟩ (fun _ _ _ _ => trivial) ?_ ?_
  · rintro env σ ⟨rfl, rfl, -⟩
    simp [en, e1, e2, e4, e0]
    exact finX_S
  · rintro q l env σ ⟨rfl, rfl, h1⟩ Q hn' hr
    simp [en, e3 q (h1 q (by simp))]
    exact hn' _ _ ⟨rfl, rfl, fun q m => h1 q (by simp [m])⟩
theorem table_with_run (k : Nat) (n : Nat) (hn : n ≤ 500) (qs : List Cnd) (h : ∀ q ∈ qs, CnOk n q) (hl : qs.length ≤ 5000) (st : Sto) : runF tab (k + 5) f_table_with (.int n :: qs.map eCn) st = some (.ok (eTb (n + 1) (qs.foldl tigF noT)) st) := table_with_aux k n n rfl hn qs h hl st
theorem zipIdx_range (N n : Nat) : (List.range' n N).zipIdx n = (List.range' n N).map fun i => (i, i) := by
  induction N generalizing n with
  | zero => rfl
  | succ N ih => simp [List.range'_succ, ih]
theorem enm_range (N : Nat) (enc : Nat → PV) : enmP ((List.range N).map enc) = (List.range N).map fun i => .tup [.int (i : Nat), enc i] := by
  rw [enm_map, List.range_eq_range', zipIdx_range, List.map_map]
  rfl
theorem inP_int2 (st : Sto) (i j : Nat) : inP st (.int (i : Nat)) (.tup [.int 0, .int (j : Nat)]) = some (decide (i = 0 ∨ i = j)) := by
  have e : inP st (.int (i : Nat)) (.tup [.int 0, .int (j : Nat)]) = some ((0 == (i : Int)) || (((j : Int) == (i : Int)) || false)) := rfl
  rw [e]
  congr 1
  rw [Bool.eq_iff_iff]
  simp
  omega
theorem effective_run (k : Nat) (N : Nat) (t : Tb) (st : Sto) : runF tab (k + 2) f_effective [eTb N t] st = some (.ok (eTb N (effF t)) st) := by
  rw [run_eq (d := d_effective) rfl rfl]
  simp [d_effective, b_effective, x_lc, eTb, enm_range]
  rw [lcL_map (fun i : Nat => PV.tup [.int (i : Nat), rowP N (t i)]) (fun i => rowP N (effF t i)) trivial (List.range N) (fun i m => by
    simp [rowP, enm_range]
    rw [lcL_map (fun j : Nat => PV.tup [.int (j : Nat), eC (t i j)]) (fun j => eC (effF t i j)) trivial (List.range N) (fun j m => by
      have e := least_run k (t i j) (some (0, 1)) st
      simp only [eC_some] at e
      simp [inP_int2, glbNM, e]
      unfold effF
      by_cases h : i = 0 ∨ i = j
      · have hb : (decide (i = 0) || decide (i = j)) = true := by simpa using h
        rw [if_pos h]
        simp [hb, e]
      · have hb : (decide (i = 0) || decide (i = j)) = false := by simpa using h
        rw [if_neg h]
        simp [hb])]
    simp)]
  simp
theorem zip_range (N : Nat) (f g : Nat → PV) : zipP ((List.range N).map f) ((List.range N).map g) = (List.range N).map fun j => .tup [f j, g j] := by
  unfold zipP
  rw [List.zip_map', List.map_map]
  rfl
theorem least2_none (a : Option Edge) : least2 a none = a := by cases a <;> rfl
theorem eC_pu : ∀ o, PV.pu (eC o) = true
  | none => rfl
  | some _ => rfl
theorem through_run (k : Nat) (N : Nat) (hN : N ≤ 1000) (f g : Nat → Option Edge) (hd : Option Edge) (st : Sto) : runF tab (k + 1) f_row_through [rowP N f, eC hd, rowP N g] st = some (.ok (rowP N fun j => least2 (f j) (addC hd (g j))) st) := by
  rw [run_eq (d := d_row_through) rfl rfl]
  refine finX_of ?_
  cases hd with
  | none =>
    simp [d_row_through, b_row_through]
    have : (fun j => least2 (f j) (addC none (g j))) = f := by
      funext j
      exact least2_none (f j)
    rw [this]
    exact finX_S
  | some e =>
    simp [d_row_through, b_row_through, q_fors]
    let out : Nat → PV := fun j => eC (least2 (f j) (addC (some e) (g j)))
    let en : BR.Env := [some (rowP N f), some (eE e), some (rowP N g), some (.int e.1), some (.int e.2), some (.ref st.length), none, none, none]
    have ez : zipL (rowP N f) (rowP N g) (st ++ [Cell.lst []]) = some (.ok ((List.range N).map fun j => .tup [eC (f j), eC (g j)], none) (st ++ [Cell.lst []])) := by
      unfold rowP
      simp [zip_range]
    rw [ez]
    simp only [stm_ok]
    rw [List.range_eq_range']
    refine for_Q (fun j : Nat => PV.tup [eC (f j), eC (g j)]) (fun l env σ => ∃ j, j ≤ N ∧ l = List.range' j (N - j) ∧ env = en ∧ σ = st ++ [.lst ((List.range j).map out)]) _ rfl ⟨0, by omega, rfl, rfl, rfl⟩ (fun _ _ _ _ => trivial) ?_ ?_
    · rintro env σ ⟨j, hj, hl, rfl, rfl⟩
      have hj2 : j = N := by
        have := congrArg List.length hl
        simp at this
        omega
      subst hj2
      have e1 : (st ++ [Cell.lst ((List.range j).map out)])[st.length]? = some (.lst ((List.range j).map out)) := by simp
      simp [en, tuple_ref e1]
      refine finX_E ?_
      show PV.pu (.tup _) = true
      rw [pu_tup]
      refine pus_map _ _ fun i _ => ?_
      exact eC_pu _
    · rintro j l env σ ⟨i, hi, hl, rfl, rfl⟩ Q hn hr
      have hi2 : i < N := by
        have := congrArg List.length hl
        simp at this
        omega
      rw [show N - i = (N - i - 1) + 1 by omega, List.range'_succ] at hl
      simp only [List.cons.injEq] at hl
      obtain ⟨rfl, rfl⟩ := hl
      have ea := fun (env : BR.Env) (v : PV) => app_end (env := env) (st := st) (xs := (List.range j).map out) v (by simp; omega)
      have hq : Q (.ok .nx en (st ++ [.lst ((List.range j).map out ++ [out j])])) := hn _ _ ⟨j + 1, by omega, by congr 1, rfl, by simp [List.range_succ]⟩
      cases hg : g j with
      | none =>
        have eo : out j = eC (f j) := by
          show eC (least2 (f j) (addC (some e) (g j))) = _
          rw [hg]
          exact congrArg eC (least2_none (f j))
        rw [eo] at hq
        simp [en, ea]
        exact hq
      | some u =>
        have em : (if u.2 < e.2 then u.2 else e.2) = min e.2 u.2 := by
          split <;> omega
        have et : PV.tup [.int (e.1 + u.1), .int (min e.2 u.2)] = eE (e.1 + u.1, min e.2 u.2) := rfl
        simp [en, ea, em, et]
        cases hf : f j with
        | none =>
          have eo : out j = eE (e.1 + u.1, min e.2 u.2) := by
            show eC (least2 (f j) (addC (some e) (g j))) = _
            rw [hg, hf]
            rfl
          rw [eo] at hq
          simp [ea]
          exact hq
        | some w =>
          have eo : out j = eC (if eLt (e.1 + u.1, min e.2 u.2) w = true then some (e.1 + u.1, min e.2 u.2) else some w) := by
            show eC (least2 (f j) (addC (some e) (g j))) = _
            rw [hg, hf]
            rfl
          rw [eo] at hq
          cases hlt : eLt (e.1 + u.1, min e.2 u.2) w with
          | true =>
            rw [hlt] at hq
            simp [ea, hlt]
            exact hq
          | false =>
            rw [hlt] at hq
            simp [ea, hlt]
            exact hq
end K87
end
section
set_option Elab.async false
set_option linter.all false
set_option maxRecDepth 100000
set_option maxHeartbeats 4000000
/-! W23: the told table. -/
namespace K87
open PySem hiding Env exec
open BR KM
@[simp] theorem walked_tb (st : Sto) (N : Nat) (t : Tb) : walked st (eTb N t) = some ((List.range N).map fun i => rowP N (t i), none) := rfl
@[simp] theorem walked_rowP (st : Sto) (N : Nat) (f : Nat → Option Edge) : walked st (rowP N f) = some ((List.range N).map fun i => eC (f i), none) := rfl
theorem close_run (k : Nat) (N : Nat) (hN : N ≤ 1000) (t : Tb) (h : ∀ i, i < N → ∃ e, itF t i i i = some e ∧ eLt e (0, 1) = false) (st : Sto) : runF tab (k + 3) f_close [eTb N t] st = some (.ok (eTb N (itF t N)) st) := by
  rw [run_eq (d := d_close) rfl rfl]
  refine finX_of ?_
  have e0 := effective_run k N t st
  simp [d_close, b_close, q_fors, e0, rngL_nat N (show N ≤ 1000000 by omega)]
  rw [List.range_eq_range']
  let en (t' : Tb) : BR.Env := [some (eTb N t), some (eTb N t'), none, none, none]
  refine for_Q (fun i : Nat => PV.int i) (fun l env σ => ∃ j, j ≤ N ∧ l = List.range' j (N - j) ∧ env = en (itF t j) ∧ σ = st) _ rfl ⟨0, by omega, rfl, rfl, rfl⟩ (fun _ _ _ _ => trivial) ?_ ?_
  · rintro env σ ⟨j, hj, hl, rfl, rfl⟩
    have hj2 : j = N := by
      have := congrArg List.length hl
      simp at this
      omega
    subst hj2
    simp [en]
    exact finX_S
  · rintro i l env σ ⟨j, hj, hl, rfl, rfl⟩ Q hn hr
    have hi : j < N := by
      have := congrArg List.length hl
      simp at this
      omega
    rw [show N - j = (N - j - 1) + 1 by omega, List.range'_succ] at hl
    simp only [List.cons.injEq] at hl
    obtain ⟨rfl, rfl⟩ := hl
    obtain ⟨e, e1, e2⟩ := h i hi
    simp [en, ixTb hi, ixRowP hi, e1, glbNM, e2, x_lc]
    rw [lcL_map (fun a : Nat => rowP N (itF t i a)) (fun a => rowP N (itF t (i + 1) a)) trivial (List.range N) (fun a m => by
      have e3 := through_run (k + 1) N hN (itF t i a) (itF t i i) (itF t i a i) σ
      simp [ixRowP hi, e3]
      rfl)]
    simp
    exact hn _ _ ⟨i + 1, by omega, by congr 1, rfl, rfl⟩
/-- what is asked of the conditions -/
theorem lr_le (sp : List (Stp Str)) (s : Str) : ∀ n, lr sp n s ≤ n
  | 0 => Nat.le_refl _
  | n + 1 => by
    have := lr_le sp s n
    rw [lr]
    split
    · split <;> omega
    · omega
theorem tCo_ok2 (sp : List (Stp Str)) (n N : Nat) (hn : n + 1 ≤ N) (t : List (Str × Span)) (h : ∀ q ∈ t, Ls q.2) : ∀ q ∈ tCo sp n t, CnOk N q := by
  intro q m
  unfold tCo at m
  obtain ⟨p, mp, m⟩ := List.mem_flatMap.mp m
  obtain ⟨h1, h2⟩ := h p mp
  have l := lr_le sp p.1 n
  rcases List.mem_cons.mp m with rfl | m
  · refine ⟨by simp only []; omega, hn, ?_⟩
    unfold Le at h1 ⊢
    simp only []
    omega
  · cases e : p.2.2 with
    | none => rw [e] at m; cases m
    | some u =>
      rw [e] at m
      simp only [List.mem_singleton] at m
      subst m
      exact ⟨hn, by simp only []; omega, h2 u e⟩
theorem sCo_ok2 (sp : List (Stp Str)) (n N : Nat) (hn : n + 1 ≤ N) (t : List (Str × Edge)) (h : ∀ q ∈ t, Le q.2) : ∀ q ∈ sCo sp n t, CnOk N q := by
  intro q m
  unfold sCo at m
  obtain ⟨p, mp, rfl⟩ := List.mem_map.mp m
  have l := lr_le sp p.1 n
  exact ⟨hn, by simp only []; omega, h p mp⟩
theorem stOf_le {c : Crd Str} (ok : CardOk c) {s : Str} (hs : s ∈ c.sts.map (·.1)) : ∀ q ∈ stOf c.sts s, Le q.2 := fun q m => ((ok.stok _ (List.mem_of_getElem? (stOf_at hs))).ed q m).1
theorem cds_ok {c : Crd Str} (ok : CardOk c) (sp : List (Stp Str)) : ∀ (es : List En) (n N : Nat) (s : Str), n + es.length + 1 ≤ N → PathOk c es → s ∈ c.sts.map (·.1) → ∀ q ∈ cds c sp n s (sps es), CnOk N q
  | [], n, N, s, hN, _, hs, q, m => sCo_ok2 sp n N (by simpa using hN) _ (stOf_le ok hs) q m
  | e :: es, n, N, s, hN, hp, hs, q, m => by
    have so := ok.spok _ (List.mem_of_getElem? (hp e (by simp)))
    simp only [List.length_cons] at hN
    simp only [sps, List.map_cons, cds, List.mem_append, List.mem_cons] at m
    rcases m with ((rfl | m) | m) | m
    · refine ⟨by simp only []; omega, by simp only []; omega, ?_⟩
      unfold Le
      simp
    · exact tCo_ok2 sp n N (by omega) _ (fun q m => (so.test.sp q m).1) q m
    · exact sCo_ok2 sp n N (by omega) _ (stOf_le ok hs) q m
    · exact cds_ok ok sp es (n + 1) N e.2.2.tgt (by omega) (fun e m => hp e (by simp [m])) so.tgt q m
/-- the conditions of the run -/
def cnd (c : Crd Str) (es : List En) : List Cnd := cds c (sps es) 0 (fst0 c) (sps es)
theorem cnd_ok {c : Crd Str} (ok : CardOk c) {es : List En} (hp : PathOk c es) : ∀ q ∈ cnd c es, CnOk (es.length + 1) q := cds_ok ok _ es 0 _ _ (by omega) hp (std0_ok ok).1
theorem CnOk.km {n : Nat} {q : Cnd} (h : CnOk n q) : rch q.e ∧ q.i < n + 1 ∧ q.j < n + 1 := ⟨h.2.2.2.2, by have := h.1; omega, by have := h.2.1; omega⟩
/-- the told table of the path -/
def ptT (c : Crd Str) (es : List En) : Tb := ptF (es.length + 2) (cnd c es)
theorem path_table_run (k : Nat) (c : Crd Str) (ok : CardOk c) (g : PV) (hg : IsG c g) (es : List En) (hp : PathOk c es) (hc : chn (fst0 c) (sps es)) (hl : es.length ≤ 100) {x : Nat → Int} (hx : (cnd c es).all (·.ok x) = true) (h0 : x 0 = 0) (hnn : ∀ j, j < es.length + 2 → 0 ≤ x j) (st : Sto) :
    runF tab (k + 6) f_path_table [g, ePath es] st = some (.ok (eTb (es.length + 2) (ptT c es)) st) := by
  rw [run_eq (d := d_path_table) rfl rfl]
  have e1 := conditions_run (k + 1) c ok g hg es hp hc hl st
  have e2 := test_cond_run (k + 3) c g hg es hp es.length (Nat.le_refl _) hl [] (by simp) (by simp) st
  have lc := cds_len ok (sps es) es 0 (fst0 c) hp (std0_ok ok).1
  have e3 := table_with_run k (es.length + 1) (by omega) (cnd c es) (cnd_ok ok hp) (by unfold cnd; omega) st
  have kq : ∀ q ∈ cnd c es, rch q.e ∧ q.i < es.length + 2 ∧ q.j < es.length + 2 := fun q m => (cnd_ok ok hp q m).km
  obtain ⟨r1, s1⟩ := tigs_ok (N := es.length + 2) (cnd c es) noT noT_rch kq
  have e4 := close_run (k + 2) (es.length + 2) (by omega) ((cnd c es).foldl tigF noT) (fun i hi => by
    obtain ⟨e, he⟩ := itF_diag (t := (cnd c es).foldl tigF noT) i i
    refine ⟨e, he, diag_ok (N := es.length + 2) (x := x) hi ?_ he (itF_rch r1 i (by omega) i i hi hi)⟩
    rw [itF_ok r1 x i (by omega), effF_ok r1 x h0, s1]
    exact ⟨⟨noT_ok, hx⟩, hnn⟩) st
  have e5 : (cds c (sps es) 0 (fst0 c) (sps es)).map eCn = (cnd c es).map eCn := rfl
  rw [e5] at e1
  rw [show eTest [] = .tup [] from rfl, show (tCo (sps es) es.length []).map eCn = [] from rfl] at e2
  rw [show es.length + 1 + 1 = es.length + 2 by omega, show ((es.length + 1 : Nat) : Int) = (es.length : Int) + 1 by omega] at e3
  simp [d_path_table, b_path_table, e1, e2, e3, e4]
  rfl
end K87
end
section
set_option Elab.async false
set_option linter.all false
set_option maxRecDepth 100000
set_option maxHeartbeats 4000000
/-! W24: keeps, the table's form, sums, the piece. -/
namespace K87
open PySem hiding Env exec
open BR KM
def satB (N : Nat) (t : Tb) (x : Nat → Int) : Bool := (List.range N).all fun i => (List.range N).all fun j => capB (t i j) (x i - x j)
theorem satB_ok {N : Nat} {t : Tb} {x : Nat → Int} : satB N t x = true ↔ satF N t x := by
  unfold satB satF
  simp only [List.all_eq_true, List.mem_range, capB_ok]
  exact ⟨fun h i j hi hj => h i hi j hj, fun h i hi j hj => h i j hi hj⟩
/-- moments in a row -/
def mos (N : Nat) (x : Nat → Int) : List PV := (List.range N).map fun i => mo (x i)
theorem keeps_run (k : Nat) (N : Nat) (hN : N ≤ 1000) (t : Tb) (ht : ∀ i j, i < N + 1 → j < N + 1 → LeO (t i j)) (x : Nat → Int) (h0 : x 0 = 0) (hz : ∀ i, i < N + 1 → Z (x i)) (st : Sto) :
    runF tab (k + 2) f_keeps [eTb (N + 1) t, .tup (mos N fun i => x (i + 1))] st = some (.ok (.bl (satB (N + 1) t x)) st) := by
  rw [run_eq (d := d_keeps) rfl rfl]
  refine finX_of ?_
  have e1 : ∀ st, bltf st .len [.tup (mos N fun i => x (i + 1))] = some (.int N) := fun st => by simp [mos]
  have e2 : ((N + 1 : Nat) : Int) - 1 = N := by omega
  have e3 : bin2 .add (.tup [mo 0]) (.tup (mos N fun i => x (i + 1))) = some (.tup (mos (N + 1) x)) := by
    rw [add_tup _ _ (by simp [mos]; omega)]
    congr 2
    unfold mos
    rw [List.range_succ_eq_map]
    simp [h0]
  have e4 : ∀ st (f : Nat → Option Edge), zipL (rowP (N + 1) f) (.tup (mos (N + 1) x)) st = some (.ok ((List.range (N + 1)).map fun j => .tup [eC (f j), mo (x j)], none) st) := fun st f => by
    unfold rowP mos
    simp [zip_range]
  have e5 : ∀ st, zipL (eTb (N + 1) t) (.tup (mos (N + 1) x)) st = some (.ok ((List.range (N + 1)).map fun j => .tup [rowP (N + 1) (t j), mo (x j)], none) st) := fun st => by
    unfold eTb mos
    simp [zip_range]
  simp [d_keeps, b_keeps, q_fors, e1, glb16, e3, e5]
  let en : BR.Env := [some (eTb (N + 1) t), some (.tup (mos N fun i => x (i + 1))), some (.int N), some (.tup (mos (N + 1) x)), none, none, none, none]
  refine for_Q (fun i : Nat => PV.tup [rowP (N + 1) (t i), mo (x i)]) (fun l env σ => env = en ∧ σ = st ∧ (∀ i ∈ l, i < N + 1) ∧ satB (N + 1) t x = l.all fun i => (List.range (N + 1)).all fun j => capB (t i j) (x i - x j)) (List.range (N + 1)) rfl ⟨rfl, rfl, by simp, rfl⟩ (fun _ _ _ _ => trivial) ?_ ?_
  · rintro env σ ⟨rfl, rfl, -, h⟩
    rw [h]
    simp [en]
    exact finX_S
  · rintro i l env σ ⟨rfl, rfl, hl, h⟩ Q hn hr
    have hi := hl i (by simp)
    simp [en, e4]
    refine for_Q (fun j : Nat => PV.tup [eC (t i j), mo (x j)]) (fun l' env σ' => env = (en.set 4 (some (rowP (N + 1) (t i)))).set 5 (some (mo (x i))) ∧ σ' = σ ∧ (∀ j ∈ l', j < N + 1) ∧ satB (N + 1) t x = ((l'.all fun j => capB (t i j) (x i - x j)) && (l.all fun i => (List.range (N + 1)).all fun j => capB (t i j) (x i - x j)))) (List.range (N + 1)) rfl ⟨rfl, rfl, by simp, by rw [h, List.all_cons]⟩ (fun _ _ _ _ => trivial) ?_ ?_
    · rintro env σ ⟨rfl, rfl, -, h⟩
      simp [en]
      exact hn _ _ ⟨rfl, rfl, fun i m => hl i (by simp [m]), by rw [h]; simp⟩
    · rintro j l' env σ ⟨rfl, rfl, hl', h⟩ Q' hn' hr'
      have hj := hl' j (by simp)
      have e6 := allows_run k (x i) (x j) (t i j) σ (ht i j hi hj) (hz i hi) (hz j hj)
      simp [en, e6]
      rw [List.all_cons] at h
      cases hb : capB (t i j) (x i - x j) with
      | true =>
        rw [hb, Bool.true_and] at h
        simp
        exact hn' _ _ ⟨rfl, rfl, fun j m => hl' j (by simp [m]), h⟩
      | false =>
        rw [hb, Bool.false_and, Bool.false_and] at h
        simp
        refine hr' _ _ _ (hr _ _ _ ?_)
        rw [h]
        exact finX_S
theorem is_table_run (k : Nat) (N : Nat) (t : Tb) (ht : ∀ i j, i < N → j < N → LeO (t i j)) (st : Sto) : runF tab (k + 3) f__law_is_table [eTb N t, .int N] st = some (.ok (.bl true) st) := by
  rw [run_eq (d := d__law_is_table) rfl rfl]
  refine finX_of ?_
  simp [d__law_is_table, b__law_is_table, q_fors]
  let en : BR.Env := [some (eTb N t), some (.int N), none, none]
  refine for_Q (fun i : Nat => rowP N (t i)) (fun l env σ => env = en ∧ σ = st ∧ (∀ i ∈ l, i < N)) (List.range N) rfl ⟨rfl, rfl, by simp⟩ (fun _ _ _ _ => trivial) ?_ ?_
  · rintro env σ ⟨rfl, rfl, -⟩
    simp [en]
    exact finX_S
  · rintro i l env σ ⟨rfl, rfl, hl⟩ Q hn hr
    have hi := hl i (by simp)
    simp [en, x_lc]
    rw [lcL_map (fun j : Nat => eC (t i j)) (fun _ => PV.bl true) trivial (List.range N) (fun j m => by
      simp [lcap_run k (t i j) σ (ht i j hi (List.mem_range.mp m))])]
    have e := all_bls σ (List.range N) (fun _ => true)
    have e0 : ((List.range N).all fun _ => true) = true := by rw [List.all_eq_true]; simp
    rw [e0] at e
    simp [e]
    exact hn _ _ ⟨rfl, rfl, fun i m => hl i (by simp [m])⟩
/-- a pair of numbers for so many units -/
def RP (z : Int) (v : PV) : Prop := ∃ n d : Int, v = .tup [.int n, .int d] ∧ 0 < d ∧ d ≤ 1000000 ∧ n.natAbs < 2 ^ 200 ∧ n * 3000 = z * d
theorem RP_mo {z : Int} (h : Z z) : RP z (mo z) := ⟨nu z, de z, rfl, de_pos z, by have := de_le z; omega, by have := nu_abs z; unfold Z at h; omega, nu_de z⟩
theorem RP_neg {z : Int} (h : Z z) : RP (-z) (.tup [.int (0 - nu z), .int (de z)]) := ⟨0 - nu z, de z, rfl, de_pos z, by have := de_le z; omega, by have := nu_abs z; unfold Z at h; omega, by have := nu_de z; rw [Int.neg_mul, ← this]; omega⟩
theorem RP_int {l : Int} (h : l.natAbs < 2 ^ 200) : RP (l * 3000) (.tup [.int l, .int 1]) := ⟨l, 1, rfl, by omega, by omega, h, by omega⟩
theorem RP_half {z y : Int} (h : Z z) (hy : 2 * y = z) : RP y (.tup [.int (nu z), .int (2 * de z)]) := ⟨nu z, 2 * de z, rfl, by have := de_pos z; omega, by have := de_le z; omega, by have := nu_abs z; unfold Z at h; omega, by
  have := nu_de z
  rw [this, ← hy]
  rw [Int.mul_comm 2 y, Int.mul_assoc]⟩
inductive RPs : List Int → List PV → Prop
  | nil : RPs [] []
  | cons {z : Int} {v : PV} {zs : List Int} {vs : List PV} : RP z v → RPs zs vs → RPs (z :: zs) (v :: vs)
theorem total_run (k : Nat) (zs : List Int) (vs : List PV) (h : RPs zs vs) (hz : ∀ z ∈ zs, -10000000000 ≤ z ∧ z ≤ 10000000000) (hl : zs.length ≤ 100) (st : Sto) : runF tab (k + 2) f__law_total [.lst vs] st = some (.ok (mo zs.sum) st) := by
  rw [run_eq (d := d__law_total) rfl rfl]
  refine finX_of ?_
  simp [d__law_total, b__law_total, q_fors]
  let en (z : Int) : BR.Env := [some (.lst vs), some (mo z), none]
  refine for_Q (fun v : PV => v) (fun l env σ => ∃ y ys, env = en y ∧ σ = st ∧ RPs ys l ∧ y + ys.sum = zs.sum ∧ (∀ z ∈ ys, -10000000000 ≤ z ∧ z ≤ 10000000000) ∧ ys.length ≤ 100 ∧ -(10000000000 * (100 - ys.length) : Int) ≤ y ∧ y ≤ 10000000000 * (100 - ys.length)) vs (by simp) ⟨0, zs, rfl, rfl, h, by simp, hz, hl, by omega, by omega⟩ (fun _ _ _ _ => trivial) ?_ ?_
  · rintro env σ ⟨y, ys, rfl, rfl, h1, h2, -⟩
    cases h1
    simp at h2
    rw [← h2]
    simp [en]
    exact finX_S
  · rintro v l env σ ⟨y, ys, rfl, rfl, h1, h2, h3, h4, h5, h6⟩ Q hn hr
    cases h1 with
    | @cons z _ zs' _ hv ht =>
      obtain ⟨n, d, rfl, d0, d1, n1, e⟩ := hv
      simp only [List.length_cons] at h4 h5 h6
      have hy : Z y := by unfold Z; omega
      have m1 : smul (nu y) d := smul_of (nu_sm hy) (by omega)
      have m2 : smul n (de y) := smul_of (by omega) (de_sm y)
      have m3 : smul (de y) d := smul_of (de_sm y) (by omega)
      have dp : 0 < de y * d := Int.mul_pos (de_pos y) d0
      have ds : (de y * d).natAbs < 2 ^ 300 := by
        rw [Int.natAbs_mul]
        have h1 := de_le y
        have h2 := de_pos y
        have : (de y).natAbs * d.natAbs ≤ 3000 * 1000000 := Nat.mul_le_mul (by omega) (by omega)
        omega
      have eq : (nu y * d + n * de y) * 3000 = (y + z) * (de y * d) := by
        have h1 := nu_de y
        grind
      have r := low_run k _ _ _ σ dp ds eq
      have i0 : idxP σ (.tup [.int n, .int d]) (.int 0) = some (.int n) := rfl
      have i1 : idxP σ (.tup [.int n, .int d]) (.int 1) = some (.int d) := rfl
      simp [en, i0, i1, m1, m2, m3, r]
      have hzz := h3 z (by simp)
      refine hn _ _ ⟨y + z, zs', rfl, rfl, ht, by rw [← h2]; simp; omega, fun z m => h3 z (by simp [m]), by omega, by omega, by omega⟩
end K87
end
section
set_option Elab.async false
set_option linter.all false
set_option maxRecDepth 100000
set_option maxHeartbeats 4000000
/-! W25: the piece of the table. -/
namespace K87
open PySem hiding Env exec
open BR KM
theorem mos_at {N : Nat} {x : Nat → Int} {i : Nat} (h : i < N) : (mos N x)[i]? = some (mo (x i)) := by simp [mos, h]
theorem shift_run (k : Nat) (N : Nat) (x : Nat → Int) (hx : ∀ i, i < N → 0 ≤ x i ∧ x i ≤ 1000000000) (p a b : Nat) (hp : p + 1 < N) (ha : a < N) (hb : b < N) (l : Int) (hl : -2000000 ≤ l ∧ l ≤ 2000000) (st : Sto) :
    runF tab (k + 3) f__law_shift [.lst (mos N x), .int p, .int a, .int b, .int l] st = some (.ok (mo ((x (p + 1) - x p) + x b - x a + l * 3000)) st) := by
  rw [run_eq (d := d__law_shift) rfl rfl]
  have g := fun i (h : i < N) => hx i h
  have z := fun i (h : i < N) => Z_of (g i h).1 (g i h).2
  have i1 : idxP st (.lst (mos N x)) (.int ((p : Int) + 1)) = some (mo (x (p + 1))) := idx_lst (i := p + 1) (mos_at hp)
  have i2 : idxP st (.lst (mos N x)) (.int (p : Nat)) = some (mo (x p)) := idx_lst (mos_at (by omega))
  have i3 : idxP st (.lst (mos N x)) (.int (a : Nat)) = some (mo (x a)) := idx_lst (mos_at ha)
  have i4 : idxP st (.lst (mos N x)) (.int (b : Nat)) = some (mo (x b)) := idx_lst (mos_at hb)
  have r : RPs [x (p + 1), -x p, x b, -x a, l * 3000] [mo (x (p + 1)), .tup [.int (0 - nu (x p)), .int (de (x p))], mo (x b), .tup [.int (0 - nu (x a)), .int (de (x a))], .tup [.int l, .int 1]] :=
    .cons (RP_mo (z _ hp)) (.cons (RP_neg (z _ (by omega))) (.cons (RP_mo (z _ hb)) (.cons (RP_neg (z _ ha)) (.cons (RP_int (by omega)) .nil))))
  have e := total_run k _ _ r (by
    have h1 := g _ hp
    have h2 := g p (by omega)
    have h3 := g _ hb
    have h4 := g _ ha
    intro z m
    simp only [List.mem_cons, List.not_mem_nil, or_false] at m
    rcases m with rfl | rfl | rfl | rfl | rfl <;> omega) (by simp) st
  have s : [x (p + 1), -x p, x b, -x a, l * 3000].sum = (x (p + 1) - x p) + x b - x a + l * 3000 := by
    simp only [List.sum_cons, List.sum_nil]
    omega
  rw [s] at e
  simp at e
  simp [d__law_shift, b__law_shift, i1, i2, i3, i4, e]
def eB (b : Bd) : PV := .tup [mo b.1, .int b.2]
def eBO : Option Bd → PV
  | none => .non
  | some b => eB b
@[simp] theorem eBO_none : eBO none = .non := rfl
@[simp] theorem eBO_some (b : Bd) : eBO (some b) = eB b := rfl
@[simp] theorem isNon_eB (b : Bd) : isNon (eB b) = false := rfl
@[simp] theorem isi_eB (b : Bd) : isiP (eB b) .tuple = some true := rfl
@[simp] theorem len_eB (st : Sto) (b : Bd) : bltf st .len [eB b] = some (.int 2) := rfl
@[simp] theorem ixB0 (st : Sto) (b : Bd) : idxP st (eB b) (.int 0) = some (mo b.1) := rfl
@[simp] theorem ixB1 (st : Sto) (b : Bd) : idxP st (eB b) (.int 1) = some (.int b.2) := rfl
theorem rng2_nat (i j : Nat) (h : i ≤ j) (hj : j ≤ 1000000) (st : Sto) : rng2L (.int (i : Int)) (.int (j : Int)) st = some (.ok ((List.range (j - i)).map (fun (a : Nat) => PV.int ((i + a : Nat) : Int)), none) st) := by
  show (if -1000000 ≤ (i : Int) ∧ (i : Int) ≤ 1000000 ∧ -1000000 ≤ (j : Int) ∧ (j : Int) ≤ 1000000 then some (Re.ok (rngP i j, none) st) else none) = _
  rw [if_pos (by omega)]
  unfold rngP
  rw [show ((j : Int) - (i : Int)).toNat = j - i by omega]
  congr 3
def pcHI : S := (.ifs (.cmp .notN (.var 7) .non) (.seq (.set (.nm 8) (.call 64 (.cons (.var 1) (.cons (.var 2) (.cons (.var 5) (.cons (.var 6) (.cons (.idx (.var 7) (.int 0)) .nil))))))) (.seq (.ifs (.or (.cmp .isN (.var 4) .non) (.or (.call 18 (.cons (.var 8) (.cons (.idx (.var 4) (.int 0)) .nil))) (.one (.and (.cmp .eq (.var 8) (.idx (.var 4) (.int 0))) (.one (.cmp .lt (.idx (.var 7) (.int 1)) (.idx (.var 4) (.int 1)))))))) (.seq (.set (.nm 4) (.tup (.cons (.var 8) (.cons (.idx (.var 7) (.int 1)) .nil)))) .skip) .skip) .skip)) .skip)
def pcLO : S := (.ifs (.cmp .notN (.var 7) .non) (.seq (.set (.nm 8) (.call 64 (.cons (.var 1) (.cons (.var 2) (.cons (.var 5) (.cons (.var 6) (.cons (.bin .sub (.int 0) (.idx (.var 7) (.int 0))) .nil))))))) (.seq (.ifs (.or (.cmp .isN (.var 3) .non) (.or (.call 18 (.cons (.idx (.var 3) (.int 0)) (.cons (.var 8) .nil))) (.one (.and (.cmp .eq (.var 8) (.idx (.var 3) (.int 0))) (.one (.cmp .lt (.idx (.var 7) (.int 1)) (.idx (.var 3) (.int 1)))))))) (.seq (.set (.nm 3) (.tup (.cons (.var 8) (.cons (.idx (.var 7) (.int 1)) .nil)))) .skip) .skip) .skip)) .skip)
theorem piece_body : b__law_piece = (.seq (.set (.nm 3) .non) (.seq (.set (.nm 4) .non) (.seq (.wipe [5, 6, 7, 8]) (.seq (.fors (.nm 5) (.rng2 (.bin .add (.var 2) (.int 1)) (.blt .len (.cons (.var 1) .nil))) (.seq (.wipe [6, 7, 8]) (.seq (.fors (.nm 6) (.rng1 (.bin .add (.var 2) (.int 1))) (.seq (.set (.nm 7) (.idx (.idx (.var 0) (.var 5)) (.var 6))) (.seq pcHI (.seq (.set (.nm 7) (.idx (.idx (.var 0) (.var 6)) (.var 5))) (.seq pcLO (.seq (.wipe [6, 7, 8]) .skip)))))) (.seq (.wipe [5, 6, 7, 8]) .skip)))) (.seq (.ret (.tup (.cons (.var 3) (.cons (.var 4) .nil)))) .skip))))) := rfl
def hiO (h : Option Bd) (o : Option Edge) (w : Int → Int) : Option Bd := match o with
  | none => h
  | some e => hiS h (w e.1, e.2)
def loO' (h : Option Bd) (o : Option Edge) (w : Int → Int) : Option Bd := match o with
  | none => h
  | some e => loS h (w e.1, e.2)
theorem pcS_eq (t : Tb) (x : Nat → Int) (p : Nat) (s : Pc) (A b : Nat) : pcS t x p s (A, b) = (loO' s.1 (t b A) (fun l => (x (p + 1) - x p) + x b - x A - l * 3000), hiO s.2 (t A b) (fun l => (x (p + 1) - x p) + x b - x A + l * 3000)) := by
  unfold pcS hiO loO'
  (simp only []) <;> (cases t A b <;> cases t b A <;> rfl)
theorem hiO_Z {h : Option Bd} {o : Option Edge} {w : Int → Int} (hz : ∀ b, h = some b → Z b.1) (hs : ∀ e, o = some e → Z (w e.1)) : ∀ b, hiO h o w = some b → Z b.1 := by
  intro b e
  cases o with
  | none => exact hz b e
  | some u =>
    have k := hs u rfl
    cases h with
    | none =>
      cases e
      exact k
    | some c =>
      simp only [hiO, hiS] at e
      split at e
      · cases e
        exact k
      · exact hz b e
theorem loO_Z {h : Option Bd} {o : Option Edge} {w : Int → Int} (hz : ∀ b, h = some b → Z b.1) (hs : ∀ e, o = some e → Z (w e.1)) : ∀ b, loO' h o w = some b → Z b.1 := by
  intro b e
  cases o with
  | none => exact hz b e
  | some u =>
    have k := hs u rfl
    cases h with
    | none =>
      cases e
      exact k
    | some c =>
      simp only [loO', loS] at e
      split at e
      · cases e
        exact k
      · exact hz b e
def PcZ (s : Pc) : Prop := (∀ c, s.1 = some c → Z c.1) ∧ ∀ c, s.2 = some c → Z c.1
theorem PcZ0 : PcZ (none, none) := ⟨(fun _ h => by cases h), (fun _ h => by cases h)⟩
theorem hi_half (k : Nat) (T R P A B : PV) (l : Option Bd) (h : Option Bd) (o : Option Edge) (w : Int → Int) (σ : Sto) (hs : ∀ e, o = some e → runF tab (k + 3) f__law_shift [R, P, A, B, .int e.1] σ = some (.ok (mo (w e.1)) σ) ∧ Z (w e.1)) (hz : ∀ b, h = some b → Z b.1) (v8 : Option PV) :
    ∃ v8', exec tab (runF tab (k + 3)) pcHI [some T, some R, some P, some (eBO l), some (eBO h), some A, some B, some (eC o), v8] σ = some (.ok .nx [some T, some R, some P, some (eBO l), some (eBO (hiO h o w)), some A, some B, some (eC o), v8'] σ) := by
  cases o with
  | none => exact ⟨v8, by simp [pcHI, hiO]⟩
  | some e =>
    obtain ⟨e1, z1⟩ := hs e rfl
    refine ⟨some (mo (w e.1)), ?_⟩
    cases h with
    | none =>
      simp [pcHI, hiO, e1, hiS]
      rfl
    | some b =>
      have z2 := hz b rfl
      have e2 := less_run (k + 2) (w e.1) b.1 σ z1 z2
      simp [pcHI, hiO, e1, e2, hiS]
      by_cases c1 : w e.1 < b.1
      · simp [c1]
        rfl
      · by_cases c2 : w e.1 = b.1
        · by_cases c3 : e.2 < b.2
          · simp [c2, c3]
            rfl
          · simp [c2, c3]
        · simp [c1, c2]
theorem lo_half (k : Nat) (T R P A B : PV) (l : Option Bd) (h : Option Bd) (o : Option Edge) (w : Int → Int) (σ : Sto) (hs : ∀ e, o = some e → runF tab (k + 3) f__law_shift [R, P, A, B, .int (-e.1)] σ = some (.ok (mo (w e.1)) σ) ∧ Z (w e.1)) (hz : ∀ b, l = some b → Z b.1) (v8 : Option PV) :
    ∃ v8', exec tab (runF tab (k + 3)) pcLO [some T, some R, some P, some (eBO l), some (eBO h), some A, some B, some (eC o), v8] σ = some (.ok .nx [some T, some R, some P, some (eBO (loO' l o w)), some (eBO h), some A, some B, some (eC o), v8'] σ) := by
  cases o with
  | none => exact ⟨v8, by simp [pcLO, loO']⟩
  | some e =>
    obtain ⟨e1, z1⟩ := hs e rfl
    refine ⟨some (mo (w e.1)), ?_⟩
    cases l with
    | none =>
      simp [pcLO, loO', e1, loS]
      rfl
    | some b =>
      have z2 := hz b rfl
      have e2 := less_run (k + 2) b.1 (w e.1) σ z2 z1
      simp [pcLO, loO', e1, e2, loS]
      by_cases c1 : b.1 < w e.1
      · simp [c1]
        rfl
      · by_cases c2 : w e.1 = b.1
        · by_cases c3 : e.2 < b.2
          · simp [c2, c3]
            rfl
          · simp [c2, c3]
        · simp [c1, c2]
theorem piece_run (k : Nat) (N : Nat) (hN : N ≤ 1000) (t : Tb) (x : Nat → Int) (hx : ∀ i, i < N → 0 ≤ x i ∧ x i ≤ 1000000000) (p : Nat) (hp : p + 1 < N) (ht : ∀ i j, i < N → j < N → LeO (t i j)) (st : Sto) :
    runF tab (k + 4) f__law_piece [eTb N t, .lst (mos N x), .int p] st = some (.ok (.tup [eBO (pcA t x N p).1, eBO (pcA t x N p).2]) st) := by
  rw [run_eq (d := d__law_piece) rfl rfl]
  refine finX_of ?_
  have e1 : ∀ st, bltf st .len [.lst (mos N x)] = some (.int N) := fun st => by simp [mos]
  have e2 := fun st => rng2_nat (p + 1) N (by omega) (by omega) st
  rw [show ((p + 1 : Nat) : Int) = (p : Int) + 1 by omega] at e2
  simp [d__law_piece, piece_body, q_fors, e1, e2]
  let en (s : Pc) : BR.Env := [some (eTb N t), some (.lst (mos N x)), some (.int p), some (eBO s.1), some (eBO s.2), none, none, none, none]
  have hA : (prs N p).foldl (pcS t x p) (none, none) = (List.range (N - (p + 1))).foldl (fun s a => (List.range (p + 1)).foldl (fun s b => pcS t x p s (p + 1 + a, b)) s) (none, none) := by
    unfold prs
    rw [List.foldl_flatMap]
    congr 1
    funext s a
    rw [List.foldl_map]
  unfold pcA
  rw [hA]
  refine for_Q (fun (a : Nat) => PV.int ((p + 1 + a : Nat) : Int)) (fun l env σ => ∃ s, env = en s ∧ σ = st ∧ PcZ s ∧ (∀ a ∈ l, a < N - (p + 1)) ∧ l.foldl (fun s a => (List.range (p + 1)).foldl (fun s b => pcS t x p s (p + 1 + a, b)) s) s = (List.range (N - (p + 1))).foldl (fun s a => (List.range (p + 1)).foldl (fun s b => pcS t x p s (p + 1 + a, b)) s) (none, none)) (List.range (N - (p + 1))) (by simp) ⟨(none, none), rfl, rfl, PcZ0, by simp, rfl⟩ (fun _ _ _ _ => trivial) ?_ ?_
  · rintro env σ ⟨s, rfl, rfl, -, -, h⟩
    rw [← h]
    simp [en]
    exact finX_S
  · rintro a l env σ ⟨s, rfl, rfl, hZ, hl, h⟩ Q hn hr
    have ha := hl a (by simp)
    have haN : p + 1 + a < N := by omega
    have e3 := fun st => rngL_nat (st := st) (p + 1) (by omega)
    rw [show ((p + 1 : Nat) : Int) = (p : Int) + 1 by omega] at e3
    generalize hA' : p + 1 + a = A at *
    simp [en, e3]
    rw [List.foldl_cons, hA'] at h
    refine for_Q (fun b : Nat => PV.int b) (fun l' env σ' => ∃ s, env = (en s).set 5 (some (.int A)) ∧ σ' = σ ∧ PcZ s ∧ (∀ b ∈ l', b < p + 1) ∧ l.foldl (fun s a => (List.range (p + 1)).foldl (fun s b => pcS t x p s (p + 1 + a, b)) s) (l'.foldl (fun s b => pcS t x p s (A, b)) s) = (List.range (N - (p + 1))).foldl (fun s a => (List.range (p + 1)).foldl (fun s b => pcS t x p s (p + 1 + a, b)) s) (none, none)) (List.range (p + 1)) rfl ⟨s, rfl, rfl, hZ, by simp, h⟩ (fun _ _ _ _ => trivial) ?_ ?_
    · rintro env σ' ⟨s, rfl, rfl, hZ, -, h⟩
      simp [en]
      exact hn _ _ ⟨s, rfl, rfl, hZ, fun a m => hl a (by simp [m]), h⟩
    · rintro b l' env σ' ⟨s, rfl, rfl, hzs, hl', h⟩ Q' hn' hr'
      have hb := hl' b (by simp)
      rw [List.foldl_cons] at h
      have c1 := ht A b haN (by omega)
      have c2 := ht b A (by omega) haN
      have hw : ∀ l : Int, -1000000 ≤ l ∧ l ≤ 1000000 → Z ((x (p + 1) - x p) + x b - x A + l * 3000) := fun l hl => by
        have h1 := hx (p + 1) hp
        have h2 := hx p (by omega)
        have h3 := hx b (by omega)
        have h4 := hx A haN
        unfold Z
        omega
      have sh := fun (l : Int) (hl : -2000000 ≤ l ∧ l ≤ 2000000) => shift_run k N x hx p A b hp haN (by omega) l hl σ'
      have hZ' : PcZ (pcS t x p s (A, b)) := by
        rw [pcS_eq]
        have a := loO_Z (h := s.1) (o := t b A) (w := fun l => (x (p + 1) - x p) + x b - x A - l * 3000) hzs.1 (fun e he => by
          have := c2 e he
          unfold Le at this
          have g := hw (-e.1) (by omega)
          rw [show -e.1 * 3000 = -(e.1 * 3000) by omega] at g
          exact g)
        have b' := hiO_Z (h := s.2) (o := t A b) (w := fun l => (x (p + 1) - x p) + x b - x A + l * 3000) hzs.2 (fun e he => by
          have := c1 e he
          unfold Le at this
          exact hw e.1 (by omega))
        exact ⟨a, b'⟩
      have hq : Q' (.ok .nx ((en (pcS t x p s (A, b))).set 5 (some (.int A))) σ') := hn' _ _ ⟨_, rfl, rfl, hZ', fun b m => hl' b (by simp [m]), h⟩
      rw [pcS_eq] at hq
      obtain ⟨v8, e3⟩ := hi_half k (eTb N t) (.lst (mos N x)) (.int p) (.int A) (.int b) s.1 s.2 (t A b) (fun l => (x (p + 1) - x p) + x b - x A + l * 3000) σ' (fun e he => by
        have := c1 e he
        unfold Le at this
        exact ⟨sh e.1 (by omega), hw e.1 (by omega)⟩) hzs.2 none
      obtain ⟨v8', e4⟩ := lo_half k (eTb N t) (.lst (mos N x)) (.int p) (.int A) (.int b) s.1 (hiO s.2 (t A b) (fun l => (x (p + 1) - x p) + x b - x A + l * 3000)) (t b A) (fun l => (x (p + 1) - x p) + x b - x A - l * 3000) σ' (fun e he => by
        have := c2 e he
        unfold Le at this
        have g := hw (-e.1) (by omega)
        have g2 := sh (-e.1) (by omega)
        rw [show -e.1 * 3000 = -(e.1 * 3000) by omega] at g g2
        exact ⟨g2, g⟩) hzs.1 v8
      simp [en, ixTb haN, ixRowP (show b < N by omega), e3]
      simp [ixTb (show b < N by omega), ixRowP haN, e4]
      exact hq
end K87
end
section
set_option Elab.async false
set_option linter.all false
set_option maxRecDepth 100000
set_option maxHeartbeats 4000000
/-! W26: slack. -/
namespace K87
open PySem hiding Env exec
open BR KM
theorem mo_int (l : Int) : mo (l * 3000) = .tup [.int l, .int 1] := by
  have h : gg (l * 3000) = 3000 := by
    unfold gg
    rw [Int.gcd_eq_natAbs_gcd_natAbs, Int.natAbs_mul]
    exact Nat.gcd_mul_left_left _ _
  unfold mo nu de
  rw [h]
  congr 2
  congr 1
  omega
theorem lesser_run (k : Nat) (f : Option Bd) (s : Bd) (st : Sto) (hf : ∀ c, f = some c → Z c.1) (hs : Z s.1) : runF tab (k + 2) f__lesser_high [eBO f, eB s] st = some (.ok (eB (lesH f s)) st) := by
  rw [run_eq (d := d__lesser_high) rfl rfl]
  cases f with
  | none => simp [d__lesser_high, b__lesser_high, lesH]
  | some f =>
    have e := compared_run k f.1 s.1 st (hf f rfl) hs
    simp [d__lesser_high, b__lesser_high, e, lesH]
    unfold sg
    by_cases c1 : f.1 < s.1
    · simp [c1]
    · by_cases c2 : s.1 < f.1
      · have c3 : ¬ f.1 = s.1 := by omega
        simp [c1, c2, c3]
      · have c3 : f.1 = s.1 := by omega
        by_cases c4 : f.2 = 0
        · simp [c3, c4]
        · simp [c3, c4]
theorem greater_run (k : Nat) (f : Bd) (s : Bd) (st : Sto) (hf : Z f.1) (hs : Z s.1) : runF tab (k + 2) f__greater_low [eB f, eB s] st = some (.ok (eB (greL f s)) st) := by
  rw [run_eq (d := d__greater_low) rfl rfl]
  have e := compared_run k f.1 s.1 st hf hs
  simp [d__greater_low, b__greater_low, e, greL]
  unfold sg
  by_cases c1 : s.1 < f.1
  · have : ¬ f.1 < s.1 := by omega
    simp [c1, this]
  · by_cases c2 : f.1 < s.1
    · have c3 : ¬ f.1 = s.1 := by omega
      simp [c1, c2, c3]
    · have c3 : f.1 = s.1 := by omega
      by_cases c4 : f.2 = 0
      · simp [c3, c4]
      · simp [c3, c4]
theorem high_run (k : Nat) (o : Int) (e : Edge) (st : Sto) (ho : Z o) (he : Le e) (h : o ≤ e.1 * 3000) : runF tab (k + 3) f__high_beside [mo o, eE e] st = some (.ok (eB (e.1 * 3000 - o, e.2)) st) := by
  rw [run_eq (d := d__high_beside) rfl rfl]
  have s := since_run k o (e.1 * 3000) st ho (by unfold Le at he; unfold Z; omega) h
  rw [mo_int] at s
  simp [d__high_beside, b__high_beside, s]
  rfl
theorem low_run' (k : Nat) (o : Int) (e : Edge) (st : Sto) (ho : Z o) (he : Le e) : runF tab (k + 3) f__low_beside [mo o, eE e] st = some (.ok (eB (lowB o e)) st) := by
  rw [run_eq (d := d__low_beside) rfl rfl]
  have hz : Z (-e.1 * 3000) := by unfold Le at he; unfold Z; omega
  have c := compared_run (k + 1) o (-e.1 * 3000) st ho hz
  rw [mo_int] at c
  simp [d__low_beside, b__low_beside, c, glb13]
  generalize hsg : sg o (-e.1 * 3000) = g
  unfold lowB
  by_cases h : -e.1 * 3000 < o
  · have h2 : 0 < g := by
      rw [← hsg]
      unfold sg
      rw [if_neg (by omega), if_pos h]
      omega
    rw [if_pos h]
    simp [h2]
    rfl
  · have h2 : ¬ 0 < g := by
      rw [← hsg]
      unfold sg
      rw [if_neg h]
      split <;> omega
    have s := since_run k o (-e.1 * 3000) st ho hz (by omega)
    rw [mo_int] at s
    rw [if_neg h]
    simp [h2, s]
    rfl
/-- the moments with the clock numbers of the table -/
def lastM (es : List En) : Int := (es.getLast?.map (·.1)).getD 0
def xOf (es : List En) : Nat → Int
  | 0 => 0
  | k + 1 => (es[k]?.map (·.1)).getD (lastM es)
theorem xOf_at {es : List En} {k : Nat} {e : En} (h : es[k]? = some e) : xOf es (k + 1) = e.1 := by simp [xOf, h]
theorem xOf_end (es : List En) : xOf es (es.length + 1) = lastM es := by simp [xOf]
theorem mos_xOf (es : List En) : mo 0 :: (es.map (fun e => mo e.1) ++ [mo (lastM es)]) = mos (es.length + 2) (xOf es) := by
  unfold mos
  apply List.ext_getElem
  · simp
  · intro n h1 h2
    cases n with
    | zero => simp [xOf]
    | succ n =>
      simp at h1
      by_cases h : n < es.length
      · simp [List.getElem_append, h, xOf, List.getElem?_eq_getElem h]
      · have : n = es.length := by omega
        subst this
        simp [xOf]
theorem RowOk.bd {c : Crd Str} : ∀ {es : List En} {b : Int}, RowOk c b es → 0 ≤ b → ∀ e ∈ es, b ≤ e.1 ∧ e.1 ≤ 1000000000
  | [], _, _, _, e, m => by cases m
  | a :: r, b, h, h0, e, m => by
    obtain ⟨h1, h2, _, h3⟩ := h
    rcases List.mem_cons.mp m with rfl | m
    · exact ⟨h1, h2⟩
    · have := RowOk.bd h3 (by omega) e m
      omega
theorem lastM_bd {c : Crd Str} {es : List En} (h : RowOk c 0 es) : 0 ≤ lastM es ∧ lastM es ≤ 1000000000 := by
  unfold lastM
  cases e : es.getLast? with
  | none => simp
  | some a =>
    have := RowOk.bd h (by omega) a (List.mem_of_getLast? e)
    simp
    omega
theorem xOf_bd {c : Crd Str} {es : List En} (h : RowOk c 0 es) (i : Nat) : 0 ≤ xOf es i ∧ xOf es i ≤ 1000000000 := by
  cases i with
  | zero => simp [xOf]
  | succ k =>
    cases e : es[k]? with
    | none =>
      have : xOf es (k + 1) = lastM es := by simp [xOf, e]
      rw [this]
      exact lastM_bd h
    | some a =>
      rw [xOf_at e]
      exact RowOk.bd h (by omega) a (List.mem_of_getElem? e)
theorem RowOk.mono {c : Crd Str} : ∀ {es : List En} {b : Int}, RowOk c b es → ∀ k e, es[k]? = some e → (k = 0 → b ≤ e.1) ∧ ∀ f, es[k + 1]? = some f → e.1 ≤ f.1
  | [], _, _, k, e, h => by simp at h
  | a :: r, b, h, 0, e, hk => by
    cases hk
    obtain ⟨h1, h2, _, h3⟩ := h
    refine ⟨fun _ => h1, fun f hf => ?_⟩
    cases r with
    | nil => simp at hf
    | cons g r =>
      cases hf
      exact h3.1
  | a :: r, b, h, k + 1, e, hk => by
    obtain ⟨h1, h2, _, h3⟩ := h
    have := RowOk.mono h3 k e (by simpa using hk)
    exact ⟨(fun h => by cases h), fun f hf => this.2 f (by simpa using hf)⟩
theorem xOf_mono {c : Crd Str} {es : List En} (h : RowOk c 0 es) (i : Nat) (hi : i < es.length) : xOf es i ≤ xOf es (i + 1) := by
  have e1 : es[i]? = some es[i] := List.getElem?_eq_getElem hi
  rw [xOf_at e1]
  cases i with
  | zero => exact (RowOk.mono h 0 _ e1).1 rfl
  | succ i =>
    have e2 : es[i]? = some es[i] := List.getElem?_eq_getElem (by omega)
    rw [xOf_at e2]
    exact (RowOk.mono h i _ e2).2 _ e1
theorem xOf_last {es : List En} (hn : es ≠ []) : xOf es (es.length + 1) = xOf es es.length := by
  rw [xOf_end]
  cases h : es.length with
  | zero => exact absurd (List.eq_nil_of_length_eq_zero h) hn
  | succ n =>
    obtain ⟨a, e⟩ : ∃ a, es[n]? = some a := ⟨_, List.getElem?_eq_getElem (by omega)⟩
    rw [xOf_at e]
    unfold lastM
    rw [List.getLast?_eq_getElem?, h]
    simp [e]
theorem xOf_le {c : Crd Str} {es : List En} (h : RowOk c 0 es) (hn : es ≠ []) : ∀ (d i : Nat), i + d ≤ es.length + 1 → xOf es i ≤ xOf es (i + d)
  | 0, i, _ => Int.le_refl _
  | d + 1, i, hd => by
    have h1 := xOf_le h hn d i (by omega)
    by_cases hl : i + d < es.length
    · have := xOf_mono h (i + d) hl
      rw [show i + (d + 1) = i + d + 1 by omega]
      omega
    · have e : i + d = es.length := by omega
      rw [show i + (d + 1) = i + d + 1 by omega, e, xOf_last hn, ← e]
      exact h1
end K87
end
section
set_option Elab.async false
set_option linter.all false
set_option maxRecDepth 100000
set_option maxHeartbeats 4000000
/-! W27: slack, second part. -/
namespace K87
open PySem hiding Env exec
open BR KM
@[simp] theorem walked_tupL (st : Sto) (xs : List PV) : walked st (.tup xs) = some (xs, none) := rfl
theorem idx_neg1 {st : Sto} {es : List En} (hn : es ≠ []) : ∃ e, idxP st (eRow es) (.int (-1)) = some (eEn e) ∧ e.1 = lastM es := by
  cases h : es.getLast? with
  | none => exact absurd (List.getLast?_eq_none_iff.mp h) hn
  | some e =>
    refine ⟨e, ?_, by unfold lastM; rw [h]; rfl⟩
    have e1 : idxP st (eRow es) (.int (-1)) = atP (es.map eEn) (-1) := rfl
    rw [e1]
    exact atP_last (by rw [List.getLast?_map, h]; rfl)
theorem add_lst (xs ys : List PV) (h : xs.length + ys.length ≤ 10000) : bin2 .add (.lst xs) (.lst ys) = some (.lst (xs ++ ys)) := by
  show (if xs.length + ys.length ≤ sizeLine then some (PV.lst (xs ++ ys)) else none) = _
  rw [if_pos (by rw [sizeLine_eq]; omega)]
def SlZ (s : Sl) : Prop := Z s.1.1 ∧ ∀ c, s.2 = some c → Z c.1
theorem slack_run (k : Nat) (c : Crd Str) (ok : CardOk c) (g : PV) (hg : IsG c g) (es : List En) (h : RowOk c 0 es) (hl : es.length ≤ 100) (hc : chn (fst0 c) (sps es)) (hq : (cnd c es).all (·.ok (xOf es)) = true) {y z : Std Str} (hw : walkA c 0 (std0 c) (wk es) = some y) (hr : restA c y 0 = some z) (p : Nat) (hp : p < es.length) (st : Sto) :
    runF tab (k + 6) f_slack [g, eRow es, ePath es, .int p] st = some (.ok (.tup [eB (slA (xOf es) p (cnd c es)).1, eBO (slA (xOf es) p (cnd c es)).2]) st) := by
  have hn : es ≠ [] := by intro e; rw [e] at hp; simp at hp
  have e1 := check_row_run (k + 1) c ok es h st
  have e2 := standing_after_run k c ok g hg es h hl hw hr st
  have e3 := conditions_run (k + 1) c ok g hg es h.path hc hl st
  obtain ⟨el, e4, e5⟩ := idx_neg1 (st := st) hn
  have b1 : (p : Int) < es.length := by omega
  have b0 : (0 : Int) ≤ p := by omega
  rw [run_eq (d := d_slack) rfl rfl]
  refine finX_of ?_
  have hrun : PV.tup [eRow es, ePath es, mo 0] = eRun es := rfl
  simp [d_slack, b_slack, e1, glb13, hrun, e2, hp, x_lc]
  rw [lcL_map eEn (fun e => mo e.1) trivial es (fun e m => by simp)]
  have a1 := add_lst [mo 0] (es.map fun e => mo e.1) (by simp; omega)
  have a2 := add_lst ([mo 0] ++ es.map fun e => mo e.1) [mo (lastM es)] (by simp; omega)
  have a3 : [mo 0] ++ (es.map fun e => mo e.1) ++ [mo (lastM es)] = mos (es.length + 2) (xOf es) := by
    rw [← mos_xOf]
    simp
  rw [a3] at a2
  simp at a1 a2
  have ix := fun (st : Sto) i (hi : i < es.length + 2) => idx_lst (st := st) (mos_at (N := es.length + 2) (x := xOf es) hi)
  have i1 := ix st p (by omega)
  have i2 := ix st (p + 1) (by omega)
  rw [show ((p + 1 : Nat) : Int) = (p : Int) + 1 by omega] at i2
  have zx := fun i => Z_of (xOf_bd h i).1 (xOf_bd h i).2
  have bx := xOf_bd h
  have e6 := since_run (k + 3) (xOf es p) (xOf es (p + 1)) st (zx _) (zx _) (xOf_mono h p hp)
  simp [a1, e4, e5, a2, i1, i2, e6, e3, q_fors]
  let en (s : Sl) : BR.Env := [some g, some (eRow es), some (ePath es), some (.int p), some (.lst (mos (es.length + 2) (xOf es))), some (mo (xOf es (p + 1) - xOf es p)), some (eB s.1), some (eBO s.2), none, none, none, none, none, none]
  have co := cnd_ok ok h.path
  have h50 : (∀ q ∈ cnd c es, CnOk (es.length + 1) q ∧ q.ok (xOf es) = true) := fun q m => ⟨co q m, List.all_eq_true.mp hq q m⟩
  refine for_Q eCn (fun l env σ => ∃ s, env = en s ∧ σ = st ∧ SlZ s ∧ l.foldl (slS (xOf es) p) s = slA (xOf es) p (cnd c es) ∧ ∀ q ∈ l, CnOk (es.length + 1) q ∧ q.ok (xOf es) = true) (cnd c es) rfl ⟨((0, 1), none), rfl, rfl, ⟨Z0, fun _ h => by cases h⟩, rfl, h50⟩ (fun _ _ _ _ => trivial) ?_ ?_
  · rintro env σ ⟨s, rfl, rfl, -, h6, -⟩
    simp at h6
    rw [← h6]
    simp [en]
    exact finX_S
  · rintro q l env σ ⟨s, rfl, rfl, hz, h6, h7⟩ Q hn' hr'
    obtain ⟨⟨c1, c2, c3⟩, c4⟩ := h7 q (by simp)
    unfold Cnd.ok at c4
    rw [up_iff] at c4
    rw [List.foldl_cons] at h6
    have ii := ix σ q.i (by omega)
    have ij := ix σ q.j (by omega)
    have bi := bx q.i
    have bj := bx q.j
    have bp := bx p
    have bp1 := bx (p + 1)
    have mp := xOf_mono h p hp
    have hq' : ∀ s', SlZ s' → slS (xOf es) p s q = s' → Q (.ok .nx (en s') σ) := fun s' hz' e => hn' _ _ ⟨s', rfl, rfl, hz', by rw [← h6, e], fun q m => h7 q (by simp [m])⟩
    unfold slS at hq'
    by_cases A : q.j ≤ p ∧ p < q.i
    · have l1 := xOf_le h hn (p - q.j) q.j (by omega)
      rw [show q.j + (p - q.j) = p by omega] at l1
      have l2 := xOf_le h hn (q.i - (p + 1)) (p + 1) (by omega)
      rw [show p + 1 + (q.i - (p + 1)) = q.i by omega] at l2
      have f1 := since_run (k + 3) (xOf es q.j) (xOf es q.i) σ (zx _) (zx _) (by omega)
      have f2 := since_run (k + 3) (xOf es (p + 1) - xOf es p) (xOf es q.i - xOf es q.j) σ (by unfold Z; omega) (by unfold Z; omega) (by omega)
      have f3 := high_run (k + 2) (xOf es q.i - xOf es q.j - (xOf es (p + 1) - xOf es p)) q.e σ (by unfold Z; omega) c3 (by omega)
      have zb : Z (q.e.1 * 3000 - (xOf es q.i - xOf es q.j - (xOf es (p + 1) - xOf es p))) := by unfold Le at c3; unfold Z; omega
      have f4 := lesser_run (k + 3) s.2 (q.e.1 * 3000 - (xOf es q.i - xOf es q.j - (xOf es (p + 1) - xOf es p)), q.e.2) σ hz.2 zb
      have A1 : (q.j : Int) ≤ p := by omega
      have A2 : (p : Int) < q.i := by omega
      simp [en, A.1, A.2, ii, ij, f1, f2, f3, f4]
      refine hq' (s.1, some (lesH s.2 (q.e.1 * 3000 - (xOf es q.i - xOf es q.j - (xOf es (p + 1) - xOf es p)), q.e.2))) ⟨hz.1, ?_⟩ (if_pos A)
      intro c' e
      cases e
      cases hs2 : s.2 with
      | none => exact zb
      | some f =>
        simp only [lesH]
        split
        · exact hz.2 f hs2
        · exact zb
    · by_cases B : q.i ≤ p ∧ p < q.j
      · have l1 := xOf_le h hn (p - q.i) q.i (by omega)
        rw [show q.i + (p - q.i) = p by omega] at l1
        have l2 := xOf_le h hn (q.j - (p + 1)) (p + 1) (by omega)
        rw [show p + 1 + (q.j - (p + 1)) = q.j by omega] at l2
        have f1 := since_run (k + 3) (xOf es q.i) (xOf es q.j) σ (zx _) (zx _) (by omega)
        have f2 := since_run (k + 3) (xOf es (p + 1) - xOf es p) (xOf es q.j - xOf es q.i) σ (by unfold Z; omega) (by unfold Z; omega) (by omega)
        have f3 := low_run' (k + 2) (xOf es q.j - xOf es q.i - (xOf es (p + 1) - xOf es p)) q.e σ (by unfold Z; omega) c3
        have zb : Z (lowB (xOf es q.j - xOf es q.i - (xOf es (p + 1) - xOf es p)) q.e).1 := by
          unfold lowB
          unfold Le at c3
          split
          · exact Z0
          · unfold Z
            simp only []
            omega
        have f4 := greater_run (k + 3) s.1 (lowB (xOf es q.j - xOf es q.i - (xOf es (p + 1) - xOf es p)) q.e) σ hz.1 zb
        have nA : (decide (q.j ≤ p) && decide (p < q.i)) = false := by
          have : ¬ p < q.i := by omega
          simp [this]
        have nA2 : ¬ q.j ≤ p := by omega
        simp [en, nA2, B.1, B.2, ii, ij, f1, f2, f3, f4]
        refine hq' (greL s.1 (lowB (xOf es q.j - xOf es q.i - (xOf es (p + 1) - xOf es p)) q.e), s.2) ⟨?_, hz.2⟩ (by rw [if_neg A, if_pos B])
        unfold greL
        simp only []
        split
        · exact hz.1
        · exact zb
      · have := hq' s hz (by rw [if_neg A, if_neg B])
        simp [en]
        by_cases a1 : q.j ≤ p
        · have a2 : ¬ p < q.i := fun x => A ⟨a1, x⟩
          by_cases b1 : q.i ≤ p
          · have b2 : ¬ p < q.j := fun x => B ⟨b1, x⟩
            simp [a1, a2, b1, b2]
            exact this
          · simp [a1, a2, b1]
            exact this
        · by_cases b1 : q.i ≤ p
          · have b2 : ¬ p < q.j := fun x => B ⟨b1, x⟩
            simp [a1, b1, b2]
            exact this
          · simp [a1, b1]
            exact this
end K87
end
section
set_option Elab.async false
set_option linter.all false
set_option maxRecDepth 100000
set_option maxHeartbeats 4000000
/-! W28: refused places; moved rows; tried rests. -/
namespace K87
open PySem hiding Env exec
open BR KM
theorem slack_ex (k : Nat) (c : Crd Str) (ok : CardOk c) (g : PV) (hg : IsG c g) (es : List En) (h : RowOk c 0 es) (hl : es.length ≤ 100) {y z : Std Str} (hw : walkA c 0 (std0 c) (wk es) = some y) (hr : restA c y 0 = some z) (p : Int) (hp : ¬ (0 ≤ p ∧ p < es.length)) (st : Sto) :
    runF tab (k + 6) f_slack [g, eRow es, ePath es, .int p] st = some (.ex 1 [.int p] st) := by
  have e1 := check_row_run (k + 1) c ok es h st
  have e2 := standing_after_run k c ok g hg es h hl hw hr st
  rw [run_eq (d := d_slack) rfl rfl]
  have hrun : PV.tup [eRow es, ePath es, mo 0] = eRun es := rfl
  have hb : (decide (0 ≤ p) && decide (p < es.length)) = false := by
    rw [Bool.eq_false_iff]
    simpa using hp
  by_cases h0 : 0 ≤ p
  · have h1 : ¬ p < es.length := fun x => hp ⟨h0, x⟩
    simp [d_slack, b_slack, e1, glb13, hrun, e2, h0, h1]
  · simp [d_slack, b_slack, e1, glb13, hrun, e2, h0]
theorem no_place_run (k : Nat) (c : Crd Str) (ok : CardOk c) (g : PV) (hg : IsG c g) (es : List En) (h : RowOk c 0 es) (hl : es.length ≤ 100) {y z : Std Str} (hw : walkA c 0 (std0 c) (wk es) = some y) (hr : restA c y 0 = some z) (p : Int) (hp : ¬ (0 ≤ p ∧ p < es.length)) (st : Sto) :
    runF tab (k + 7) f__law_no_place [g, eRun es, .int p] st = some (.ok (.bl true) st) := by
  have e := slack_ex k c ok g hg es h hl hw hr p hp st
  rw [run_eq (d := d__law_no_place) rfl rfl]
  simp [d__law_no_place, b__law_no_place, q_tryr, e]
  have e2 : tryP tab.xf 1 2 2 3 (some (.ex 1 [.int p] [some g, some (eRun es), some (.int p), none] st)) = some (.ok (.rt (.bl true)) [some g, some (eRun es), some (.int p), none] st) := by
    have : fldP 2 (tab.xf 1) [.int p] = some (.int p) := rfl
    unfold tryP
    simp [this]
  rw [e2]
  simp
theorem is_bound_run (k : Nat) (b : Bd) (h0 : 0 ≤ b.1) (hr : b.2 = 0 ∨ b.2 = 1) (st : Sto) : runF tab (k + 3) f__law_is_bound [eB b] st = some (.ok (.bl true) st) := by
  rw [run_eq (d := d__law_is_bound) rfl rfl]
  have e1 := lmoment_run k b.1 st h0
  have e2 := lwhole_run (k + 1) b.2 st
  have h1 : 0 ≤ b.2 := by omega
  have h2 : b.2 ≤ 1 := by omega
  simp [d__law_is_bound, b__law_is_bound, e1, e2, h1, h2]
/-- the told limits let the rest -/
def inB (s : Sl) (t : Int) : Bool := (decide (s.1.1 < t) || (decide (t = s.1.1) && decide (s.1.2 = 1))) && (match s.2 with
  | none => true
  | some b => decide (t < b.1) || (decide (t = b.1) && decide (b.2 = 1)))
theorem inB_ok (s : Sl) (t : Int) : inB s t = true ↔ loB s.1 t ∧ upO s.2 t := by
  unfold inB loB upO upB
  cases s.2 with
  | none => simp
  | some b => simp
def eSl (s : Sl) : PV := .tup [eB s.1, eBO s.2]
@[simp] theorem ixSl0 (st : Sto) (s : Sl) : idxP st (eSl s) (.int 0) = some (eB s.1) := rfl
@[simp] theorem ixSl1 (st : Sto) (s : Sl) : idxP st (eSl s) (.int 1) = some (eBO s.2) := rfl
@[simp] theorem isi_eSl (s : Sl) : isiP (eSl s) .tuple = some true := rfl
@[simp] theorem len_eSl (st : Sto) (s : Sl) : bltf st .len [eSl s] = some (.int 2) := rfl
@[simp] theorem isNon_eBO (b : Option Bd) : isNon (eBO b) = b.isNone := by cases b <;> rfl
theorem within_run (k : Nat) (t : Int) (s : Sl) (ht : Z t) (hs : SlZ s) (hr : s.1.2 = 0 ∨ s.1.2 = 1) (st : Sto) : runF tab (k + 2) f__law_within [mo t, eSl s] st = some (.ok (.bl (inB s t)) st) := by
  rw [run_eq (d := d__law_within) rfl rfl]
  obtain ⟨⟨l, r⟩, hi⟩ := s
  have e1 := less_run k t l st ht hs.1
  simp only [] at hr
  cases hi with
  | none =>
    simp [d__law_within, b__law_within, e1]
    rw [Bool.eq_iff_iff]
    simp [inB]
    omega
  | some b =>
    have e2 := less_run k t b.1 st ht (hs.2 b rfl)
    simp [d__law_within, b__law_within, e1, e2]
    rw [Bool.eq_iff_iff]
    simp [inB]
    omega
/-- the row with the rest t before the p-th entry -/
def mvd (es : List En) (p : Nat) (t : Int) : List En := es.zipIdx.map fun q => (shf (xOf es) p t (q.2 + 1), q.1.2)
theorem mvd_at {es : List En} {p : Nat} {t : Int} {k : Nat} {e : En} (h : es[k]? = some e) : (mvd es p t)[k]? = some (shf (xOf es) p t (k + 1), e.2) := by
  unfold mvd
  rw [List.getElem?_map, List.getElem?_zipIdx, h]
  simp
theorem mvd_len (es : List En) (p : Nat) (t : Int) : (mvd es p t).length = es.length := by simp [mvd]
theorem mvd_path (es : List En) (p : Nat) (t : Int) : ePath (mvd es p t) = ePath es := by
  unfold ePath mvd
  rw [List.map_map]
  congr 1
  apply List.ext_getElem
  · simp
  · intro n h1 h2
    simp
theorem mvd_sps (es : List En) (p : Nat) (t : Int) : sps (mvd es p t) = sps es := by
  unfold sps mvd
  rw [List.map_map]
  apply List.ext_getElem
  · simp
  · intro n h1 h2
    simp
theorem moved_run (k : Nat) (c : Crd Str) (es : List En) (h : RowOk c 0 es) (hl : es.length ≤ 100) (p : Nat) (hp : p < es.length) (t : Int) (ht : 0 ≤ t ∧ t ≤ 300000000) (st : Sto) :
    runF tab (k + 3) f__law_moved [eRow es, .int p, mo t] st = some (.ok (eRow (mvd es p t)) st) := by
  rw [run_eq (d := d__law_moved) rfl rfl]
  refine finX_of ?_
  have bx := xOf_bd h
  have zx := fun i => Z_of (xOf_bd h i).1 (xOf_bd h i).2
  have zt : Z t := by unfold Z; omega
  have hep : es[p]? = some es[p] := List.getElem?_eq_getElem hp
  let en (b : PV) : BR.Env := [some (eRow es), some (.int p), some (mo t), some (mo (xOf es p)), some (.ref st.length), none, none]
  have key : ∃ r, sq (forL (gok none) (fun v env st => match asg (.nm 5) v env with
    | some env => exec tab (runF tab (k + 2)) (.seq (.set (.nm 6) (.idx (.idx (.var 0) (.var 5)) (.int 0))) (.seq (.ifs (.cmp .ge (.var 5) (.var 1)) (.seq (.set (.nm 6) (.call 19 (.cons (.call 19 (.cons (.var 3) (.cons (.var 2) .nil))) (.cons (.call 65 (.cons (.idx (.idx (.var 0) (.var 1)) (.int 0)) (.cons (.var 6) .nil))) .nil)))) .skip) .skip) (.seq (.app (.var 4) (.tup (.cons (.var 6) (.cons (.idx (.idx (.var 0) (.var 5)) (.int 1)) .nil)))) (.seq (.wipe [5, 6]) .skip)))) env st
    | none => none) ((List.range es.length).map fun i : Nat => PV.int i) (en .non) (st ++ [.lst []])) (fun env st => exec tab (runF tab (k + 2)) (.seq (.ret (.blt .tuple (.cons (.var 4) .nil))) .skip) env st) = some r ∧ FinX st (some (.ok (eRow (mvd es p t)) st)) r := by
    rw [List.range_eq_range']
    refine for_Q (fun i : Nat => PV.int i) (fun l env σ => ∃ j, j ≤ es.length ∧ l = List.range' j (es.length - j) ∧ env = en .non ∧ σ = st ++ [.lst (((mvd es p t).take j).map eEn)]) _ rfl ⟨0, by omega, rfl, rfl, rfl⟩ (fun _ _ _ _ => trivial) ?_ ?_
    · rintro env σ ⟨j, hj, hl2, rfl, rfl⟩
      have hj2 : j = es.length := by
        have := congrArg List.length hl2
        simp at this
        omega
      subst hj2
      rw [List.take_of_length_le (by rw [mvd_len]; omega)]
      have e1 : (st ++ [Cell.lst ((mvd es p t).map eEn)])[st.length]? = some (.lst ((mvd es p t).map eEn)) := by simp
      simp [en, tuple_ref e1]
      refine finX_E ?_
      show PV.pu (.tup _) = true
      rw [pu_tup]
      exact pus_map _ _ fun _ _ => rfl
    · rintro i l env σ ⟨j, hj, hl2, rfl, rfl⟩ Q hn hr
      have hi : j < es.length := by
        have := congrArg List.length hl2
        simp at this
        omega
      rw [show es.length - j = (es.length - j - 1) + 1 by omega, List.range'_succ] at hl2
      simp only [List.cons.injEq] at hl2
      obtain ⟨rfl, rfl⟩ := hl2
      have hei : es[i]? = some es[i] := List.getElem?_eq_getElem hi
      have xe := xOf_at hei
      have xp := xOf_at hep
      have g1 := mvd_at (p := p) (t := t) hei
      have g4 : ((mvd es p t).take (i + 1)).map eEn = ((mvd es p t).take i).map eEn ++ [.tup [mo (shf (xOf es) p t (i + 1)), .str es[i].2.2.deed]] := by
        rw [List.take_add_one, g1]
        simp [eEn]
      have ha := fun (env : BR.Env) (v : PV) => app_end (env := env) (st := st) (xs := ((mvd es p t).take i).map eEn) v (by simp; omega)
      have hq : Q (.ok .nx (en .non) (st ++ [.lst (((mvd es p t).take i).map eEn ++ [.tup [mo (shf (xOf es) p t (i + 1)), .str es[i].2.2.deed]])])) := hn _ _ ⟨i + 1, by omega, by congr 1, rfl, by rw [g4]⟩
      clear g4
      generalize ((mvd es p t).take i).map eEn = D at hq ha ⊢
      have b1 := bx p
      have b2 := bx (p + 1)
      have b3 := bx (i + 1)
      have f1 := fun σ => plus_run (k) (xOf es p) t σ (zx _) zt
      have f2 := fun σ => gap_run (k) (xOf es (p + 1)) (xOf es (i + 1)) σ (zx _) (zx _)
      have f3 := fun σ => plus_run (k) (xOf es p + t) (xOf es (i + 1) - xOf es (p + 1)) σ (by unfold Z; omega) (by unfold Z; omega)
      rw [show xOf es p + t + (xOf es (i + 1) - xOf es (p + 1)) = xOf es (i + 1) + (t - (xOf es (p + 1) - xOf es p)) by omega] at f3
      by_cases hpi : p ≤ i
      · have hs : shf (xOf es) p t (i + 1) = xOf es (i + 1) + (t - (xOf es (p + 1) - xOf es p)) := by unfold shf; rw [if_neg (by omega)]
        rw [hs] at hq
        simp [en, ixRow hei, ixRow hep, ← xe, ← xp, hpi, f1, f2, f3, ha]
        exact hq
      · have hs : shf (xOf es) p t (i + 1) = xOf es (i + 1) := by unfold shf; rw [if_pos (by omega)]
        rw [hs] at hq
        simp [en, ixRow hei, ← xe, hpi, ha]
        exact hq
  by_cases h0 : p = 0
  · subst h0
    simp [d__law_moved, b__law_moved, q_fors, rngL_nat _ (show es.length ≤ 1000000 by omega)]
    have hx0 : mo (xOf es 0) = .tup [.int 0, .int 1] := by rw [show xOf es 0 = 0 by simp [xOf]]; exact mo0
    simp [en, hx0] at key
    exact key
  · obtain ⟨q, rfl⟩ : ∃ q, p = q + 1 := ⟨p - 1, by omega⟩
    have heq : es[q]? = some es[q] := List.getElem?_eq_getElem (by omega)
    have xq := xOf_at heq
    have c0 : (0 : Int) < ((q + 1 : Nat) : Int) := by omega
    have c1 : ((q + 1 : Nat) : Int) - 1 = (q : Int) := by omega
    simp [en, xq] at key
    simp at c0 c1
    simp [d__law_moved, b__law_moved, q_fors, rngL_nat _ (show es.length ≤ 1000000 by omega), c0, c1, ixRow heq]
    exact key
end K87
end
section
set_option Elab.async false
set_option linter.all false
set_option maxRecDepth 100000
set_option maxHeartbeats 4000000
/-! W29: the rests that are tried. -/
namespace K87
open PySem hiding Env exec
open BR KM
theorem walked_ref {st : Sto} {n : Nat} {xs : List PV} (h : st[n]? = some (.lst xs)) : walked st (.ref n) = some (xs, some (n, xs)) := by
  unfold walked
  simp only [h]
theorem gok_ref {st : Sto} {n : Nat} {xs : List PV} (h : st[n]? = some (.lst xs)) : gok (some (n, xs)) st := ⟨_, h, rfl⟩
/-- the rests that are tried, in halves of the limits -/
def trs (s : Sl) (l2 : Int) (h2 : Option Int) (m : Int) : List Int := [s.1.1, l2, s.1.1 + m, s.1.1 + 3, m] ++ (match s.2, h2 with
  | some h, some h2 => [h.1, h.1 + m, h.1 + 3, l2 + h2]
  | _, _ => [s.1.1 + 270000])
theorem low_items (k : Nat) (σ : Sto) (g : Sto → Prop) [DecidablePred g] (hg : g σ) {f : PV → Sto → Mo (Option PV)} (hf : ∀ (n d z : Int), 0 < d → d.natAbs < 2 ^ 300 → n * 3000 = z * d → f (.tup [.int n, .int d]) σ = some (.ok (some (mo z)) σ)) (l : List (Int × PV)) (hl : ∀ q ∈ l, RP q.1 q.2) : lcL g f (l.map (·.2)) σ = some (.ok (l.map fun q => mo q.1) σ) :=
  lcL_map (·.2) (fun q => mo q.1) hg l fun q m => by
    obtain ⟨n, d, e, d0, d1, n1, h⟩ := hl q m
    rw [e]
    exact hf n d q.1 d0 (by omega) h
@[simp] theorem mo_pu (z : Int) : PV.pu (mo z) = true := rfl
theorem mo3 : mo 3 = .tup [.int 1, .int 1000] := rfl
theorem mo90 : mo 270000 = .tup [.int 90, .int 1] := rfl
theorem pairs_pu {l : List (Int × PV)} : PV.pus (l.map fun q => mo q.1) = true := pus_map _ _ fun _ _ => rfl
theorem tried_run (k : Nat) (s : Sl) (hs : SlZ s) (hb : 0 ≤ s.1.1 ∧ s.1.1 ≤ 100000000) (hh : ∀ b, s.2 = some b → 0 ≤ b.1 ∧ b.1 ≤ 100000000) (l2 : Int) (hl2 : 2 * l2 = s.1.1) (h2 : Option Int) (hh2 : ∀ b, s.2 = some b → ∃ y, h2 = some y ∧ 2 * y = b.1) (m : Int) (hm : 0 ≤ m ∧ m ≤ 100000000) (st : Sto) :
    runF tab (k + 3) f__law_tried [eSl s, mo m] st = some (.ok (.lst ((trs s l2 h2 m).map mo)) st) := by
  rw [run_eq (d := d__law_tried) rfl rfl]
  refine finX_of ?_
  obtain ⟨⟨l, r⟩, hi⟩ := s
  simp only [] at hb hl2
  have zl : Z l := by unfold Z; omega
  have zm : Z m := by unfold Z; omega
  have f1 := fun σ => plus_run k l m σ zl zm
  have f2 := fun σ => plus_run k l 3 σ zl (by unfold Z; omega)
  rw [mo3] at f2
  have rl : RP l2 (.tup [.int (nu l), .int (2 * de l)]) := RP_half zl hl2
  have ml : smul 2 (de l) := smul_of (by decide) (de_sm l)
  cases hi with
  | none =>
    have f3 := fun σ => plus_run k l 270000 σ zl (by unfold Z; omega)
    rw [mo90] at f3
    have ha := fun (env : BR.Env) (v : PV) => app_end (env := env) (st := st) (xs := [mo l, .tup [.int (nu l), .int (2 * de l)], mo (l + m), mo (l + 3), mo m]) v (by simp)
    simp at ha
    simp [d__law_tried, b__law_tried, ml, f1, f2, f3, ha, x_lc]
    have e1 : (st ++ [Cell.lst [mo l, .tup [.int (nu l), .int (2 * de l)], mo (l + m), mo (l + 3), mo m, mo (l + 270000)]])[st.length]? = some (.lst [mo l, .tup [.int (nu l), .int (2 * de l)], mo (l + m), mo (l + 3), mo m, mo (l + 270000)]) := by simp
    have li := low_items (k + 2) (st ++ [Cell.lst [mo l, .tup [.int (nu l), .int (2 * de l)], mo (l + m), mo (l + 3), mo m, mo (l + 270000)]]) (gok (some (st.length, [mo l, .tup [.int (nu l), .int (2 * de l)], mo (l + m), mo (l + 3), mo m, mo (l + 270000)]))) (gok_ref e1)
      (f := fun v st => bnd (bnd (bnd (lif (idxP st v (.int 0)) st) fun x st => bnd (bnd (lif (idxP st v (.int 1)) st) fun x st => some (Re.ok [x] st)) fun xs st => some (Re.ok (x :: xs) st)) fun vs st => runF tab (k + 2) 6 vs st) fun x st => some (Re.ok (some x) st)) (fun n d z d0 d1 h => by
        have i0 : ∀ σ, idxP σ (.tup [.int n, .int d]) (.int 0) = some (.int n) := fun _ => rfl
        have i1 : ∀ σ, idxP σ (.tup [.int n, .int d]) (.int 1) = some (.int d) := fun _ => rfl
        have r := fun σ => low_run (k + 1) n d z σ d0 d1 h
        simp [i0, i1, r])
      [(l, mo l), (l2, .tup [.int (nu l), .int (2 * de l)]), (l + m, mo (l + m)), (l + 3, mo (l + 3)), (m, mo m), (l + 270000, mo (l + 270000))] (by
        intro q hq
        simp only [List.mem_cons, List.not_mem_nil, or_false] at hq
        rcases hq with rfl | rfl | rfl | rfl | rfl | rfl
        · exact RP_mo zl
        · exact rl
        all_goals exact RP_mo (by unfold Z; omega))
    simp only [List.map_cons, List.map_nil] at li
    rw [walked_ref e1]
    simp
    rw [li]
    simp [trs]
    exact finX_E (by simp)
  | some h =>
    obtain ⟨y, rfl, hy⟩ := hh2 h rfl
    have bh := hh h rfl
    have zh : Z h.1 := by unfold Z; omega
    have g1 := fun σ => plus_run k h.1 m σ zh zm
    have g2 := fun σ => plus_run k h.1 3 σ zh (by unfold Z; omega)
    rw [mo3] at g2
    have rh : RP y (.tup [.int (nu h.1), .int (2 * de h.1)]) := RP_half zh hy
    have mh : smul 2 (de h.1) := smul_of (by decide) (de_sm h.1)
    have g3 := fun σ => total_run (k) [l2, y] [.tup [.int (nu l), .int (2 * de l)], .tup [.int (nu h.1), .int (2 * de h.1)]] (.cons rl (.cons rh .nil)) (by
      intro z m
      simp only [List.mem_cons, List.not_mem_nil, or_false] at m
      rcases m with rfl | rfl <;> omega) (by simp) σ
    simp at g3
    have e0 : (st ++ [Cell.lst [mo l, .tup [.int (nu l), .int (2 * de l)], mo (l + m), mo (l + 3), mo m]])[st.length]? = some (.lst [mo l, .tup [.int (nu l), .int (2 * de l)], mo (l + m), mo (l + 3), mo m]) := by simp
    have a1 := add_lst [mo l, .tup [.int (nu l), .int (2 * de l)], mo (l + m), mo (l + 3), mo m] [mo h.1, mo (h.1 + m), mo (h.1 + 3)] (by simp)
    simp only [List.cons_append, List.nil_append] at a1
    simp [d__law_tried, b__law_tried, ml, f1, f2, x_lc]
    rw [frzLst e0 rfl]
    simp [g1, g2, a1, ml, mh]
    have e2 : (st ++ [Cell.dead, Cell.lst [mo l, .tup [.int (nu l), .int (2 * de l)], mo (l + m), mo (l + 3), mo m, mo h.1, mo (h.1 + m), mo (h.1 + 3)]])[st.length + 1]? = some (.lst [mo l, .tup [.int (nu l), .int (2 * de l)], mo (l + m), mo (l + 3), mo m, mo h.1, mo (h.1 + m), mo (h.1 + 3)]) := by simp
    have ic : isCL (st ++ [Cell.dead, Cell.lst [mo l, .tup [.int (nu l), .int (2 * de l)], mo (l + m), mo (l + 3), mo m, mo h.1, mo (h.1 + m), mo (h.1 + 3)]]) (.ref (st.length + 1)) = true := by
      unfold isCL
      simp only [e2]
    simp [ic, mh, ml, g3]
    have ha : ∀ (env : BR.Env) (v : PV), appP env (st ++ [Cell.dead, Cell.lst [mo l, .tup [.int (nu l), .int (2 * de l)], mo (l + m), mo (l + 3), mo m, mo h.1, mo (h.1 + m), mo (h.1 + 3)]]) (.ref (st.length + 1)) v = some (.ok .nx env (st ++ [Cell.dead, Cell.lst [mo l, .tup [.int (nu l), .int (2 * de l)], mo (l + m), mo (l + 3), mo m, mo h.1, mo (h.1 + m), mo (h.1 + 3), v]])) := fun env v => by
      unfold appP
      simp only [e2]
      rw [if_pos (by rw [sizeLine_eq]; simp)]
      have := set_at st .dead (.lst ([mo l, .tup [.int (nu l), .int (2 * de l)], mo (l + m), mo (l + 3), mo m, mo h.1, mo (h.1 + m), mo (h.1 + 3)] ++ [v])) [.lst [mo l, .tup [.int (nu l), .int (2 * de l)], mo (l + m), mo (l + 3), mo m, mo h.1, mo (h.1 + m), mo (h.1 + 3)]] 0
      simp only [Nat.add_zero, List.set_cons_zero] at this
      rw [this]
      rfl
    rw [ha]
    simp
    have e1 : (st ++ [Cell.dead, Cell.lst [mo l, .tup [.int (nu l), .int (2 * de l)], mo (l + m), mo (l + 3), mo m, mo h.1, mo (h.1 + m), mo (h.1 + 3), mo (l2 + y)]])[st.length + 1]? = some (.lst [mo l, .tup [.int (nu l), .int (2 * de l)], mo (l + m), mo (l + 3), mo m, mo h.1, mo (h.1 + m), mo (h.1 + 3), mo (l2 + y)]) := by simp
    have li := low_items (k + 2) (st ++ [Cell.dead, Cell.lst [mo l, .tup [.int (nu l), .int (2 * de l)], mo (l + m), mo (l + 3), mo m, mo h.1, mo (h.1 + m), mo (h.1 + 3), mo (l2 + y)]]) (gok (some (st.length + 1, [mo l, .tup [.int (nu l), .int (2 * de l)], mo (l + m), mo (l + 3), mo m, mo h.1, mo (h.1 + m), mo (h.1 + 3), mo (l2 + y)]))) (gok_ref e1)
      (f := fun v st => bnd (bnd (bnd (lif (idxP st v (.int 0)) st) fun x st => bnd (bnd (lif (idxP st v (.int 1)) st) fun x st => some (Re.ok [x] st)) fun xs st => some (Re.ok (x :: xs) st)) fun vs st => runF tab (k + 2) 6 vs st) fun x st => some (Re.ok (some x) st)) (fun n d z d0 d1 h => by
        have i0 : ∀ σ, idxP σ (.tup [.int n, .int d]) (.int 0) = some (.int n) := fun _ => rfl
        have i1 : ∀ σ, idxP σ (.tup [.int n, .int d]) (.int 1) = some (.int d) := fun _ => rfl
        have r := fun σ => low_run (k + 1) n d z σ d0 d1 h
        simp [i0, i1, r])
      [(l, mo l), (l2, .tup [.int (nu l), .int (2 * de l)]), (l + m, mo (l + m)), (l + 3, mo (l + 3)), (m, mo m), (h.1, mo h.1), (h.1 + m, mo (h.1 + m)), (h.1 + 3, mo (h.1 + 3)), (l2 + y, mo (l2 + y))] (by
        intro q hq
        simp only [List.mem_cons, List.not_mem_nil, or_false] at hq
        rcases hq with rfl | rfl | rfl | rfl | rfl | rfl | rfl | rfl | rfl
        · exact RP_mo zl
        · exact rl
        all_goals exact RP_mo (by unfold Z; omega))
    simp only [List.map_cons, List.map_nil] at li
    rw [walked_ref e1]
    simp
    rw [li]
    simp [trs]
    exact finX_E (by simp)
end K87
end
section
set_option Elab.async false
set_option linter.all false
set_option maxRecDepth 100000
set_option maxHeartbeats 4000000
/-! W30: what the walk and the tables say of each other. -/
namespace K87
open PySem hiding Env exec
open BR KM
theorem aft_stay {c : Crd Str} {x y : Std Str} {p : Stp Str} (h : aftA c x p = some y) : stayOk c y.1 y.2 = true := by
  unfold aftA at h
  split at h
  · split at h
    · rename_i h2
      cases h
      exact h2
    · cases h
  · cases h
theorem walk_stay {c : Crd Str} : ∀ {es : List (Int × Stp Str)} {now : Int} {x y : Std Str}, walkA c now x es = some y → stayOk c x.1 x.2 = true → stayOk c y.1 y.2 = true
  | [], _, _, _, h, hs => by
    cases h
    exact hs
  | (m, p) :: r, now, x, y, h, _ => by
    simp only [walkA] at h
    cases h1 : restA c x (m - now) with
    | none => rw [h1] at h; cases h
    | some a =>
      rw [h1] at h
      simp only [] at h
      cases h2 : aftA c a p with
      | none => rw [h2] at h; cases h
      | some b =>
        rw [h2] at h
        exact walk_stay h (aft_stay h2)
theorem std0_stay {c : Crd Str} (ok : CardOk c) : stayOk c (fst0 c) (fun _ => 0) = true := by
  unfold stayOk
  rw [List.all_eq_true]
  intro q m
  have h := (ok.stok _ (List.mem_of_getElem? (stOf_at (std0_ok ok).1))).ed q m
  obtain ⟨h1, h2, h3⟩ := h
  rw [up_iff]
  obtain ⟨a, l, r⟩ := q
  simp only [] at h2 h3 ⊢
  unfold Le at h1
  simp only [] at h1
  by_cases e : l = 0
  · right
    refine ⟨by omega, ?_⟩
    rcases h1.2.2 with h | h
    · exact absurd (by rw [e, h]) h3
    · exact h
  · left
    omega
theorem rest0 {c : Crd Str} {y : Std Str} (h : stayOk c y.1 y.2 = true) : ∃ z, restA c y 0 = some z := by
  unfold restA
  simp only [Int.add_zero]
  rw [if_pos h]
  exact ⟨_, rfl⟩
theorem endA_iff {c : Crd Str} (ok : CardOk c) (es : List En) : (endA c es).isSome = true ↔ (walkA c 0 (std0 c) (wk es)).isSome = true := by
  unfold endA
  cases h : walkA c 0 (std0 c) (wk es) with
  | none => simp
  | some y =>
    obtain ⟨z, hz⟩ := rest0 (walk_stay h (std0_stay ok))
    simp [hz]
theorem xOf_last' (es : List En) : xOf es (es.length + 1) = xOf es es.length := by
  by_cases h : es = []
  · subst h
    rfl
  · exact xOf_last h
theorem wk_ents (es : List En) : ∀ (r : List En) (k : Nat), es.drop k = r → ents (xOf es) k (sps r) = wk r
  | [], k, _ => rfl
  | e :: r, k, h => by
    have he : es[k]? = some e := by
      have := congrArg (·[0]?) h
      simpa using this
    have hd : es.drop (k + 1) = r := by
      have := congrArg List.tail h
      simpa using this
    simp only [sps, List.map_cons, ents, wk]
    rw [xOf_at he]
    congr 1
    exact wk_ents es r (k + 1) hd
theorem let_iff {c : Crd Str} (ok : CardOk c) {es : List En} (h : RowOk c 0 es) (hc : chn (fst0 c) (sps es)) : (endA c es).isSome = true ↔ (cnd c es).all (·.ok (xOf es)) = true := by
  have w := walk_iff c (sps es) (xOf es) es.length (by simp [sps]) (xOf_last' es) (fun k hk => xOf_mono h k hk) (sps es) 0 (fst0 c) (by simp) (by omega) hc
  rw [endA_iff ok]
  have e1 : rdg (sps es) (xOf es) 0 = fun _ => (0 : Int) := by
    funext s
    unfold rdg
    simp [lr, xOf]
  have e2 : ents (xOf es) 0 (sps es) = wk es := wk_ents es es 0 (by simp)
  have e3 : xOf es 0 = 0 := by simp [xOf]
  rw [e1, e2, e3] at w
  rw [show std0 c = (fst0 c, fun _ => (0 : Int)) from rfl]
  unfold cnd
  rw [← w]
  simp [std0_stay ok]
theorem RowOk_mk {c : Crd Str} : ∀ {es : List En} {b : Int}, (∀ (k : Nat) (e : En), es[k]? = some e → e.1 ≤ 1000000000 ∧ c.steps[e.2.1]? = some e.2.2) → (∀ e : En, es[0]? = some e → b ≤ e.1) → (∀ (k : Nat) (e f : En), es[k]? = some e → es[k + 1]? = some f → e.1 ≤ f.1) → RowOk c b es
  | [], _, _, _, _ => trivial
  | a :: r, b, h1, h2, h3 => by
    obtain ⟨g1, g2⟩ := h1 0 a rfl
    exact ⟨h2 a rfl, g1, g2, RowOk_mk (fun k e m => h1 (k + 1) e (by simpa using m)) (fun e m => h3 0 a e rfl (by simpa using m)) (fun k e f m n => h3 (k + 1) e f (by simpa using m) (by simpa using n))⟩
theorem shf_at {x : Nat → Int} {p : Nat} {t : Int} {i : Nat} : shf x p t i = if i ≤ p then x i else x i + (t - (x (p + 1) - x p)) := rfl
theorem mvd_row {c : Crd Str} {es : List En} (h : RowOk c 0 es) {p : Nat} (hp : p < es.length) {t : Int} (ht : 0 ≤ t ∧ t ≤ 300000000) (hM : ∀ i, xOf es i ≤ 300000000) : RowOk c 0 (mvd es p t) := by
  have b := xOf_bd h
  have hmv : ∀ k e, (mvd es p t)[k]? = some e → ∃ a, es[k]? = some a ∧ e = (shf (xOf es) p t (k + 1), a.2) := fun k e m => by
    have hk : k < es.length := by
      have := (List.getElem?_eq_some_iff.mp m).1
      rwa [mvd_len] at this
    have ha : es[k]? = some es[k] := List.getElem?_eq_getElem hk
    refine ⟨es[k], ha, ?_⟩
    have := mvd_at (p := p) (t := t) ha
    rw [m] at this
    exact Option.some.inj this
  refine RowOk_mk (fun k e m => ?_) (fun e m => ?_) (fun k e f m n => ?_)
  · obtain ⟨a, ha, rfl⟩ := hmv k e m
    have b1 := b (k + 1)
    have b2 := b p
    have b3 := b (p + 1)
    have m1 := hM (k + 1)
    have m2 := hM p
    have m3 := hM (p + 1)
    refine ⟨?_, RowOk.path h a (List.mem_of_getElem? ha)⟩
    simp only [shf_at]
    split <;> omega
  · obtain ⟨a, ha, rfl⟩ := hmv 0 e m
    have b1 := b (0 + 1)
    simp only [shf_at]
    split
    · omega
    · have e0 : p = 0 := by omega
      subst e0
      have b0 := b 0
      omega
  · obtain ⟨a, ha, rfl⟩ := hmv k e m
    obtain ⟨a', ha', rfl⟩ := hmv (k + 1) f n
    have hk : k + 1 < es.length := (List.getElem?_eq_some_iff.mp ha').1
    have mo1 := xOf_mono h (k + 1) hk
    simp only [shf_at]
    split
    · split
      · exact mo1
      · have e0 : p = k + 1 := by omega
        subst e0
        omega
    · rw [if_neg (by omega)]
      omega
theorem xOf_mvd {es : List En} {p : Nat} (hp : p < es.length) (t : Int) (i : Nat) (hi : i ≤ es.length + 1) : xOf (mvd es p t) i = shf (xOf es) p t i := by
  cases i with
  | zero =>
    rw [shf_at, if_pos (by omega)]
    simp [xOf]
  | succ k =>
    by_cases hk : k < es.length
    · rw [xOf_at (mvd_at (p := p) (t := t) (List.getElem?_eq_getElem hk))]
    · have e : k = es.length := by omega
      subst e
      have l1 := xOf_last' (mvd es p t)
      rw [mvd_len] at l1
      rw [l1]
      obtain ⟨m, hm⟩ : ∃ m, es.length = m + 1 := ⟨es.length - 1, by omega⟩
      have g : xOf (mvd es p t) (m + 1) = shf (xOf es) p t (m + 1) := by
        rw [xOf_at (mvd_at (p := p) (t := t) (List.getElem?_eq_getElem (show m < es.length by omega)))]
      rw [hm, g, ← hm]
      have l2 := xOf_last' es
      rw [shf_at, shf_at, if_neg (show ¬ es.length + 1 ≤ p by omega), if_neg (show ¬ es.length ≤ p by omega), l2]
theorem cnd_mvd (c : Crd Str) (es : List En) (p : Nat) (t : Int) : cnd c (mvd es p t) = cnd c es := by
  unfold cnd
  rw [mvd_sps]
theorem ok_congr {qs : List Cnd} {n : Nat} {x y : Nat → Int} (h : ∀ q ∈ qs, CnOk n q) (e : ∀ i, i ≤ n → x i = y i) : qs.all (·.ok x) = qs.all (·.ok y) := by
  rw [Bool.eq_iff_iff, List.all_eq_true, List.all_eq_true]
  have k : ∀ q ∈ qs, q.ok x = q.ok y := fun q m => by
    obtain ⟨h1, h2, _⟩ := h q m
    unfold Cnd.ok
    rw [e _ h1, e _ h2]
  exact ⟨fun g q m => (k q m) ▸ g q m, fun g q m => (k q m).symm ▸ g q m⟩
theorem mono_mem (c : Crd Str) (sp : List (Stp Str)) : ∀ (es : List En) (n : Nat) (s : Str) (k : Nat), k < es.length → (Cnd.mk (n + k + 1) (n + k + 2) (0, 1)) ∈ cds c sp n s (sps es)
  | [], _, _, _, h => by simp at h
  | e :: es, n, s, 0, _ => by
    simp only [sps, List.map_cons, cds]
    simp
  | e :: es, n, s, k + 1, h => by
    have := mono_mem c sp es (n + 1) e.2.2.tgt k (by simpa using h)
    simp only [sps, List.map_cons, cds, List.mem_append]
    right
    rw [show n + (k + 1) + 1 = n + 1 + k + 1 by omega, show n + (k + 1) + 2 = n + 1 + k + 2 by omega]
    exact this
end K87
end
section
set_option Elab.async false
set_option linter.all false
set_option maxRecDepth 100000
set_option maxHeartbeats 4000000
/-! W31: the rests between the limits. -/
namespace K87
open PySem hiding Env exec
open BR KM
def bdF (N : Nat) (b : Int) (t : Tb) : Prop := ∀ i j, i < N → j < N → ∀ e, t i j = some e → -b ≤ e.1 ∧ e.1 ≤ b
theorem least2_or {a b : Option Edge} {e : Edge} (h : least2 a b = some e) : a = some e ∨ b = some e := by
  cases a with
  | none => exact .inr h
  | some a =>
    cases b with
    | none => exact .inl h
    | some b =>
      simp only [least2] at h
      split at h
      · exact .inr h
      · exact .inl h
theorem thruF_bd {N k : Nat} (hk : k < N) {b : Int} (hb : 0 ≤ b) {t : Tb} (h : bdF N b t) : bdF N (b * 2) (thruF t k) := by
  intro i j hi hj e he
  unfold thruF at he
  rcases least2_or he with h1 | h1
  · have := h i j hi hj e h1
    omega
  · cases h2 : t i k with
    | none => rw [h2] at h1; cases h1
    | some u =>
      cases h3 : t k j with
      | none => rw [h2, h3] at h1; cases h1
      | some w =>
        rw [h2, h3] at h1
        cases h1
        have a := h i k hi hk u h2
        have b := h k j hk hj w h3
        simp only []
        omega
theorem effF_bd {N : Nat} {b : Int} (hb : 0 ≤ b) {t : Tb} (h : bdF N b t) : bdF N b (effF t) := by
  intro i j hi hj e he
  unfold effF at he
  split at he
  · rcases least2_or he with h1 | h1
    · exact h i j hi hj e h1
    · cases h1
      simp only []
      omega
  · exact h i j hi hj e he
theorem itF_bd {N : Nat} {b : Int} (hb : 0 ≤ b) {t : Tb} (h : bdF N b t) : ∀ k, k ≤ N → bdF N (b * 2 ^ k) (itF t k)
  | 0, _ => by
    simp only [Int.pow_zero, Int.mul_one]
    exact effF_bd hb h
  | k + 1, hk => by
    have ih := itF_bd hb h k (by omega)
    have p : 0 ≤ b * 2 ^ k := Int.mul_nonneg hb (Int.pow_nonneg (by omega))
    have := thruF_bd (k := k) (by omega) p ih
    rw [Int.pow_succ, ← Int.mul_assoc]
    exact this
theorem tigs_bd {N : Nat} {b : Int} : ∀ (qs : List Cnd) (t : Tb), bdF N b t → (∀ q ∈ qs, -b ≤ q.e.1 ∧ q.e.1 ≤ b) → bdF N b (qs.foldl tigF t)
  | [], _, h, _ => h
  | q :: qs, t, h, hq => by
    refine tigs_bd qs (tigF t q) ?_ fun q m => hq q (by simp [m])
    intro i j hi hj e he
    unfold tigF at he
    split at he
    · rcases least2_or he with h1 | h1
      · exact h i j hi hj e h1
      · cases h1
        exact hq q (by simp)
    · exact h i j hi hj e he
/-- a run as the law asks it -/
structure RunD (c : Crd Str) (es : List En) : Prop where
  row : RowOk c 0 es
  len : es.length ≤ 5
  ne : es ≠ []
  ch : chn (fst0 c) (sps es)
  lt : (cnd c es).all (·.ok (xOf es)) = true
  m50 : ∀ e ∈ es, 50 ∣ e.1
  big : ∀ e ∈ es, e.1 ≤ 2000000
  bd : ∀ q ∈ cnd c es, -99 ≤ q.e.1 ∧ q.e.1 ≤ 99
section
variable {c : Crd Str} {es : List En}
theorem RunD.tb (ok : CardOk c) (r : RunD c es) : ∀ i j, i < es.length + 2 → j < es.length + 2 → LeO (ptT c es i j) := by
  intro i j hi hj e he
  have b := itF_bd (N := es.length + 2) (b := 99) (by omega) (tigs_bd (cnd c es) noT (fun _ _ _ _ _ h => by cases h) r.bd) (es.length + 2) (Nat.le_refl _) i j hi hj e he
  have rc := ptF_rch (N := es.length + 2) (qs := cnd c es) (fun q m => (cnd_ok ok r.row.path q m).km) i j hi hj e he
  have l := r.len
  have p : (2 : Int) ^ (es.length + 2) ≤ 128 := by
    have : (2 : Nat) ^ (es.length + 2) ≤ 2 ^ 7 := Nat.pow_le_pow_right (by omega) (by omega)
    have h2 : ((2 : Nat) ^ (es.length + 2) : Nat) = (2 : Int) ^ (es.length + 2) := by simp
    omega
  unfold Le
  unfold rch at rc
  omega
theorem RunD.x50 (r : RunD c es) (i : Nat) : 50 ∣ xOf es i := by
  cases i with
  | zero => simp [xOf]
  | succ k =>
    cases e : es[k]? with
    | none =>
      have : xOf es (k + 1) = lastM es := by simp [xOf, e]
      rw [this]
      unfold lastM
      cases e : es.getLast? with
      | none => simp
      | some a =>
        simp
        exact r.m50 a (List.mem_of_getLast? e)
    | some a =>
      rw [xOf_at e]
      exact r.m50 a (List.mem_of_getElem? e)
theorem RunD.xb (r : RunD c es) (i : Nat) : xOf es i ≤ 2000000 := by
  cases i with
  | zero => simp [xOf]
  | succ k =>
    cases e : es[k]? with
    | none =>
      have : xOf es (k + 1) = lastM es := by simp [xOf, e]
      rw [this]
      unfold lastM
      cases e : es.getLast? with
      | none => simp
      | some a =>
        simp
        exact r.big a (List.mem_of_getLast? e)
    | some a =>
      rw [xOf_at e]
      exact r.big a (List.mem_of_getElem? e)
theorem RunD.qs (ok : CardOk c) (r : RunD c es) : ∀ q ∈ cnd c es, rch q.e ∧ q.ok (xOf es) = true := fun q m => ⟨(cnd_ok ok r.row.path q m).km.1, List.all_eq_true.mp r.lt q m⟩
/-- the told table's lot and the told rests -/
theorem RunD.mid (ok : CardOk c) (r : RunD c es) {p : Nat} (hp : p < es.length) (t : Int) : (loB (slA (xOf es) p (cnd c es)).1 t ∧ upO (slA (xOf es) p (cnd c es)).2 t) ↔ satF (es.length + 2) (ptT c es) (shf (xOf es) p t) := by
  obtain ⟨g1, g2, g3, g4⟩ := slA_ok (p := p) (qs := cnd c es) r.x50 (r.qs ok)
  have h0 : shf (xOf es) p t 0 = 0 := by
    rw [shf_at, if_pos (by omega)]
    simp [xOf]
  have k := ptF_ok (N := es.length + 2) (qs := cnd c es) (fun q m => (cnd_ok ok r.row.path q m).km) h0
  unfold ptT
  rw [k]
  have b := fun i => xOf_bd r.row i
  by_cases ht : 0 ≤ t
  · rw [g4 t ht]
    constructor
    · intro h
      refine ⟨h, fun j hj => ?_⟩
      have b1 := b j
      have b2 := b p
      rw [shf_at]
      split
      · omega
      · have := xOf_le r.row r.ne (j - (p + 1)) (p + 1) (by omega)
        rw [show p + 1 + (j - (p + 1)) = j by omega] at this
        omega
    · exact fun h => h.1
  · constructor
    · intro h
      have := h.1
      unfold loB at this
      omega
    · intro ⟨h1, h2⟩
      exfalso
      have e1 : shf (xOf es) p t (p + 1) = xOf es p + t := by
        rw [shf_at, if_neg (by omega)]
        omega
      cases p with
      | zero =>
        have := h2 1 (by omega)
        rw [e1] at this
        have x0 : xOf es 0 = 0 := by simp [xOf]
        omega
      | succ q =>
        have m := mono_mem c (sps es) es 0 (fst0 c) q (by omega)
        have o := List.all_eq_true.mp h1 _ m
        unfold Cnd.ok at o
        rw [up_iff] at o
        simp only [Nat.zero_add] at o
        have e2 : shf (xOf es) (q + 1) t (q + 1) = xOf es (q + 1) := by rw [shf_at, if_pos (by omega)]
        rw [e1, e2] at o
        omega
theorem shf_self (x : Nat → Int) (p : Nat) : shf x p (x (p + 1) - x p) = x := by
  funext i
  rw [shf_at]
  split <;> omega
theorem RunD.piece (ok : CardOk c) (r : RunD c es) {p : Nat} (hp : p < es.length) : pcA (ptT c es) (xOf es) (es.length + 2) p = (some (slA (xOf es) p (cnd c es)).1, (slA (xOf es) p (cnd c es)).2) := by
  obtain ⟨g1, g2, g3, g4⟩ := slA_ok (p := p) (qs := cnd c es) r.x50 (r.qs ok)
  have rc := ptF_rch (N := es.length + 2) (qs := cnd c es) (fun q m => (cnd_ok ok r.row.path q m).km)
  have w : satF (es.length + 2) (ptT c es) (xOf es) := by
    have := (ptF_ok (N := es.length + 2) (qs := cnd c es) (fun q m => (cnd_ok ok r.row.path q m).km) (x := xOf es) (by simp [xOf])).mpr ⟨r.lt, fun j _ => (xOf_bd r.row j).1⟩
    exact this
  have k := fun t => pcA_ok (T := ptT c es) (p := p) (N := es.length + 2) r.x50 rc (by omega) w t
  have m := r.mid ok hp
  have s := same g1 g2 (k 0).1 (k 0).2.1 (p := xOf es (p + 1) - xOf es p) ((m _).mpr (by rw [shf_self]; exact w)) (fun t => (m t).trans (k t).2.2.symm)
  exact Prod.ext s.1 s.2
theorem RunD.pause (ok : CardOk c) (r : RunD c es) {p : Nat} (hp : p < es.length) : loB (slA (xOf es) p (cnd c es)).1 (xOf es (p + 1) - xOf es p) ∧ upO (slA (xOf es) p (cnd c es)).2 (xOf es (p + 1) - xOf es p) := by
  rw [r.mid ok hp, shf_self]
  exact (ptF_ok (N := es.length + 2) (qs := cnd c es) (fun q m => (cnd_ok ok r.row.path q m).km) (x := xOf es) (by simp [xOf])).mpr ⟨r.lt, fun j _ => (xOf_bd r.row j).1⟩
theorem sls_hi {x : Nat → Int} {p : Nat} {B : Int} : ∀ (qs : List Cnd) (s : Sl), (∀ c, s.2 = some c → c.1 ≤ B) → (∀ q ∈ qs, q.j ≤ p ∧ p < q.i → q.e.1 * 3000 - ((x q.i - x q.j) - (x (p + 1) - x p)) ≤ B) → ∀ c, (qs.foldl (slS x p) s).2 = some c → c.1 ≤ B
  | [], s, h, _ => h
  | q :: qs, s, h, hq => by
    refine sls_hi qs (slS x p s q) ?_ fun q m => hq q (by simp [m])
    intro c e
    have b := hq q (by simp)
    unfold slS at e
    split at e
    · rename_i h1
      cases e
      have b := b h1
      cases hs : s.2 with
      | none => exact b
      | some f =>
        simp only [lesH]
        split
        · exact h f hs
        · exact b
    · split at e
      · exact h c e
      · exact h c e
theorem RunD.slb (ok : CardOk c) (r : RunD c es) {p : Nat} (hp : p < es.length) : 0 ≤ (slA (xOf es) p (cnd c es)).1.1 ∧ (slA (xOf es) p (cnd c es)).1.1 ≤ 2000000 ∧ ∀ b, (slA (xOf es) p (cnd c es)).2 = some b → 0 ≤ b.1 ∧ b.1 ≤ 3000000 := by
  obtain ⟨g1, g2, g3, g4⟩ := slA_ok (p := p) (qs := cnd c es) r.x50 (r.qs ok)
  obtain ⟨w1, w2⟩ := r.pause ok hp
  have x1 := r.xb (p + 1)
  have x2 := (xOf_bd r.row p).1
  have mono := xOf_mono r.row p hp
  refine ⟨g3, ?_, fun b hb => ⟨?_, ?_⟩⟩
  · unfold loB at w1
    omega
  · rw [hb] at w2
    simp only [upO, upB] at w2
    omega
  · refine sls_hi (B := 3000000) (cnd c es) ((0, 1), none) (fun _ h => by cases h) (fun q m h => ?_) b hb
    have b1 := r.bd q m
    have hc := cnd_ok ok r.row.path q m
    have y1 := (xOf_bd r.row q.i).1
    have y2 := r.xb q.j
    have l1 := xOf_le r.row r.ne (p - q.j) q.j (by omega)
    rw [show q.j + (p - q.j) = p by omega] at l1
    have l2 := xOf_le r.row r.ne (q.i - (p + 1)) (p + 1) (by have := hc.1; omega)
    rw [show p + 1 + (q.i - (p + 1)) = q.i by omega] at l2
    omega
end
end K87
end
section
set_option Elab.async false
set_option linter.all false
set_option maxRecDepth 100000
set_option maxHeartbeats 4000000
/-! W32: every place holds. -/
namespace K87
open PySem hiding Env exec
open BR KM
theorem mos_tail (es : List En) : (es.map (fun e => mo e.1) ++ [mo (lastM es)]) = mos (es.length + 1) fun i => xOf es (i + 1) := by
  have h := mos_xOf es
  unfold mos at h ⊢
  rw [show es.length + 2 = (es.length + 1) + 1 by omega, List.range_succ_eq_map] at h
  simp only [List.map_cons, List.map_map, List.cons.injEq] at h
  exact h.2
theorem peq_eB (a : Bd) : ∀ o : Option Bd, peq (eSl (a, o)) (eSl (a, o)) = some true := by
  intro o
  obtain ⟨z, r⟩ := a
  cases o with
  | none =>
    have e : peq (eSl ((z, r), none)) (eSl ((z, r), none)) = some ((((nu z == nu z) && ((de z == de z) && true)) && ((r == r) && true)) && (true && true)) := rfl
    rw [e]
    simp
  | some b =>
    obtain ⟨y, q⟩ := b
    have e : peq (eSl ((z, r), some (y, q))) (eSl ((z, r), some (y, q))) = some ((((nu z == nu z) && ((de z == de z) && true)) && ((r == r) && true)) && ((((nu y == nu y) && ((de y == de y) && true)) && ((q == q) && true)) && true)) := rfl
    rw [e]
    simp
theorem satF_congr {N : Nat} {t : Tb} {x y : Nat → Int} (h : ∀ i, i < N → x i = y i) : satF N t x ↔ satF N t y := by
  unfold satF
  constructor
  · intro g i j hi hj
    have := g i j hi hj
    rwa [h i hi, h j hj] at this
  · intro g i j hi hj
    rw [h i hi, h j hj]
    exact g i j hi hj
section
variable {c : Crd Str} {es : List En}
theorem RunD.at_let (ok : CardOk c) (r : RunD c es) {p : Nat} (hp : p < es.length) {t : Int} (ht : 0 ≤ t ∧ t ≤ 300000000) : (endA c (mvd es p t)).isSome = inB (slA (xOf es) p (cnd c es)) t := by
  obtain ⟨g1, g2, g3, g4⟩ := slA_ok (p := p) (qs := cnd c es) r.x50 (r.qs ok)
  rw [Bool.eq_iff_iff, inB_ok, g4 t ht.1, let_iff ok (mvd_row r.row hp ht fun i => by have := r.xb i; omega) (by rw [mvd_sps]; exact r.ch), cnd_mvd, ok_congr (cnd_ok ok r.row.path) (fun i hi => xOf_mvd hp t i hi)]
theorem RunD.at_tab (ok : CardOk c) (r : RunD c es) {p : Nat} (hp : p < es.length) (t : Int) : satB (es.length + 2) (ptT c es) (xOf (mvd es p t)) = inB (slA (xOf es) p (cnd c es)) t := by
  rw [Bool.eq_iff_iff, inB_ok, r.mid ok hp t, satB_ok, satF_congr (fun i hi => xOf_mvd hp t i (by omega))]
end
theorem place_run (k : Nat) (c : Crd Str) (ok : CardOk c) (g : PV) (hg : IsG c g) (es : List En) (r : RunD c es) (p : Nat) (hp : p < es.length) (m : Int) (hm : 0 ≤ m ∧ m ≤ 100000000) (st : Sto) :
    runF tab (k + 7) f__law_place_holds [eCrd c, g, eTb (es.length + 2) (ptT c es), eRun es, .int p, mo m] st = some (.ok (.bl true) st) := by
  have hl : es.length ≤ 100 := by have := r.len; omega
  obtain ⟨y, hw⟩ : ∃ y, walkA c 0 (std0 c) (wk es) = some y := by
    have := (let_iff ok r.row r.ch).mpr r.lt
    rw [endA_iff ok] at this
    exact Option.isSome_iff_exists.mp this
  obtain ⟨z, hz⟩ := rest0 (walk_stay hw (std0_stay ok))
  have e1 := slack_run k c ok g hg es r.row hl r.ch r.lt hw hz p hp st
  obtain ⟨g1, g2, g3, g4⟩ := slA_ok (p := p) (qs := cnd c es) r.x50 (r.qs ok)
  obtain ⟨b1, b2, b3⟩ := r.slb ok hp
  have pe := piece_run (k + 2) (es.length + 2) (by omega) (ptT c es) (xOf es) (fun i _ => xOf_bd r.row i) p (by omega) (r.tb ok) st
  rw [r.piece ok hp] at pe
  generalize hs : slA (xOf es) p (cnd c es) = s at *
  have pe2 : PV.tup [eBO (some s.1), eBO s.2] = eSl s := rfl
  have e1' : PV.tup [eB s.1, eBO s.2] = eSl s := rfl
  rw [e1'] at e1
  rw [pe2] at pe
  obtain ⟨el, i4, i5⟩ := idx_neg1 (st := st) r.ne
  have q1 := is_bound_run (k + 3) s.1 b1 g1.2 st
  have q3 : peq (eSl s) (eSl s) = some true := peq_eB s.1 s.2
  have q2 : ∀ b, s.2 = some b → runF tab (k + 3 + 3) f__law_is_bound [eB b] st = some (.ok (.bl true) st) := fun b hb => is_bound_run (k + 3) b (b3 b hb).1 (g2 b hb).2 st
  have sZ : SlZ s := ⟨by unfold Z; omega, fun b hb => by have := b3 b hb; unfold Z; omega⟩
  obtain ⟨l2, hl2⟩ : ∃ l2, 2 * l2 = s.1.1 := by have := g1.1; exact ⟨s.1.1 / 2, by omega⟩
  have hh2 : ∃ h2 : Option Int, ∀ b, s.2 = some b → ∃ y, h2 = some y ∧ 2 * y = b.1 := by
    cases h : s.2 with
    | none => exact ⟨none, fun b e => by cases e⟩
    | some b =>
      refine ⟨some (b.1 / 2), fun b' e => ?_⟩
      cases e
      have := (g2 b h).1
      exact ⟨b.1 / 2, rfl, by omega⟩
  obtain ⟨h2, hh2⟩ := hh2
  have tr := tried_run (k + 3) s sZ ⟨b1, by omega⟩ (fun b hb => by have := b3 b hb; omega) l2 hl2 h2 hh2 m hm st
  have trb : ∀ t ∈ trs s l2 h2 m, 0 ≤ t ∧ t ≤ 300000000 := by
    intro t ht
    unfold trs at ht
    simp only [List.cons_append, List.nil_append, List.mem_cons] at ht
    rcases ht with rfl | rfl | rfl | rfl | rfl | ht
    · omega
    · omega
    · omega
    · omega
    · omega
    · cases h : s.2 with
      | none =>
        rw [h] at ht
        simp only [List.mem_singleton] at ht
        omega
      | some b =>
        obtain ⟨y, rfl, hy⟩ := hh2 b h
        have := b3 b h
        rw [h] at ht
        simp only [List.mem_cons, List.not_mem_nil, or_false] at ht
        rcases ht with rfl | rfl | rfl | rfl <;> omega
  rw [run_eq (d := d__law_place_holds) rfl rfl]
  refine finX_of ?_
  have a1 := add_lst [.tup [.int 0, .int 1]] (es.map fun e => mo e.1) (by simp; omega)
  have a2 := add_lst ([.tup [.int 0, .int 1]] ++ es.map fun e => mo e.1) [mo (lastM es)] (by simp; omega)
  have a3 : [.tup [.int 0, .int 1]] ++ (es.map fun e => mo e.1) ++ [mo (lastM es)] = mos (es.length + 2) (xOf es) := by
    rw [← mos_xOf]
    simp
    rfl
  rw [a3] at a2
  simp at a1 a2
  simp [d__law_place_holds, b__law_place_holds, x_lc]
  rw [lcL_map eEn (fun e => mo e.1) trivial es (fun e m => by simp)]
  simp [i4, i5, a1, a2, e1, q1]
  let en : BR.Env := [some (eCrd c), some g, some (eTb (es.length + 2) (ptT c es)), some (eRun es), some (.int p), some (mo m), some (eRow es), some (.lst (mos (es.length + 2) (xOf es))), some (eSl s), none, none, none, none, none, none]
  cases h2' : s.2 with
  | none =>
    simp [pe, q3, q_fors, tr]
    refine for_Q mo (fun l env σ => env = en ∧ σ = st ∧ ∀ t ∈ l, 0 ≤ t ∧ t ≤ 300000000) (trs s l2 h2 m) (by simp) ⟨rfl, rfl, trb⟩ (fun _ _ _ _ => trivial) ?_ ?_
    · rintro env σ ⟨rfl, rfl, -⟩
      simp [en]
      exact finX_S
    · rintro t l env σ ⟨rfl, rfl, h⟩ Q hn hr
      have ht := h t (by simp)
      have mr := mvd_row r.row hp ht fun i => by have := r.xb i; omega
      have mv := moved_run (k + 3) c es r.row hl p hp t ht σ
      have re := run_end_run (k + 2) c ok (mvd es p t) mr (by rw [mvd_len]; exact hl) σ
      have wi := within_run (k + 4) t s (by unfold Z; omega) sZ g1.2 σ
      have kp := keeps_run (k + 4) (es.length + 1) (by omega) (ptT c es) (r.tb ok) (xOf (mvd es p t)) (by simp [xOf]) (fun i _ => Z_of (xOf_bd mr i).1 (xOf_bd mr i).2) σ
      have al := r.at_let ok hp ht
      have atb := r.at_tab ok hp t
      rw [hs] at al atb
      have hrun : PV.tup [eRow (mvd es p t), ePath es, .tup [.int 0, .int 1]] = eRun (mvd es p t) := by rw [← mvd_path es p t]; rfl
      have mt := mos_tail (mvd es p t)
      rw [mvd_len] at mt
      have mne : mvd es p t ≠ [] := by
        intro e
        have := congrArg List.length e
        rw [mvd_len] at this
        exact r.ne (List.eq_nil_of_length_eq_zero this)
      obtain ⟨el', j4, j5⟩ := idx_neg1 (st := σ) mne
      have c1 := add_lst ((mvd es p t).map fun e => mo e.1) [mo (lastM (mvd es p t))] (by simp [mvd_len]; omega)
      rw [mt] at c1
      simp only [show es.length + 1 + 1 = es.length + 2 by omega] at kp
      simp [en, mv, hrun, re, wi, al, x_lc]
      rw [lcL_map eEn (fun e => mo e.1) trivial (mvd es p t) (fun e m => by simp)]
      simp [j4, j5, c1, kp, atb]
      exact hn _ _ ⟨rfl, rfl, fun t m => h t (by simp [m])⟩
  | some b =>
    have q2' := q2 b h2'
    simp [q2', pe, q3, q_fors, tr]
    refine for_Q mo (fun l env σ => env = en ∧ σ = st ∧ ∀ t ∈ l, 0 ≤ t ∧ t ≤ 300000000) (trs s l2 h2 m) (by simp) ⟨rfl, rfl, trb⟩ (fun _ _ _ _ => trivial) ?_ ?_
    · rintro env σ ⟨rfl, rfl, -⟩
      simp [en]
      exact finX_S
    · rintro t l env σ ⟨rfl, rfl, h⟩ Q hn hr
      have ht := h t (by simp)
      have mr := mvd_row r.row hp ht fun i => by have := r.xb i; omega
      have mv := moved_run (k + 3) c es r.row hl p hp t ht σ
      have re := run_end_run (k + 2) c ok (mvd es p t) mr (by rw [mvd_len]; exact hl) σ
      have wi := within_run (k + 4) t s (by unfold Z; omega) sZ g1.2 σ
      have kp := keeps_run (k + 4) (es.length + 1) (by omega) (ptT c es) (r.tb ok) (xOf (mvd es p t)) (by simp [xOf]) (fun i _ => Z_of (xOf_bd mr i).1 (xOf_bd mr i).2) σ
      have al := r.at_let ok hp ht
      have atb := r.at_tab ok hp t
      rw [hs] at al atb
      have hrun : PV.tup [eRow (mvd es p t), ePath es, .tup [.int 0, .int 1]] = eRun (mvd es p t) := by rw [← mvd_path es p t]; rfl
      have mt := mos_tail (mvd es p t)
      rw [mvd_len] at mt
      have mne : mvd es p t ≠ [] := by
        intro e
        have := congrArg List.length e
        rw [mvd_len] at this
        exact r.ne (List.eq_nil_of_length_eq_zero this)
      obtain ⟨el', j4, j5⟩ := idx_neg1 (st := σ) mne
      have c1 := add_lst ((mvd es p t).map fun e => mo e.1) [mo (lastM (mvd es p t))] (by simp [mvd_len]; omega)
      rw [mt] at c1
      simp only [show es.length + 1 + 1 = es.length + 2 by omega] at kp
      simp [en, mv, hrun, re, wi, al, x_lc]
      rw [lcL_map eEn (fun e => mo e.1) trivial (mvd es p t) (fun e m => by simp)]
      simp [j4, j5, c1, kp, atb]
      exact hn _ _ ⟨rfl, rfl, fun t m => h t (by simp [m])⟩
end K87
end
section
set_option Elab.async false
set_option linter.all false
set_option maxRecDepth 100000
set_option maxHeartbeats 4000000
/-! W33: the box. -/
namespace K87
open PySem hiding Env exec
open BR KM
def bxc (cs : List Int) (pos big seed cnt : Int) : Cell := .lst [.lst (cs.map .int), .int pos, .int big, .int seed, .int cnt]
/-- a box from which at most u were taken -/
def Bx (u : Nat) (b : Cell) : Prop := ∃ cs pos big seed cnt, b = bxc cs pos big seed cnt ∧ (∀ x ∈ cs, 0 ≤ x) ∧ 0 ≤ pos ∧ 0 ≤ big ∧ 0 ≤ seed ∧ seed ≤ 3000000000 ∧ 0 ≤ cnt ∧ cnt ≤ u
theorem Bx.mono {u v : Nat} {b : Cell} (h : Bx u b) (l : u ≤ v) : Bx v b := by
  obtain ⟨cs, pos, big, seed, cnt, h1, h2, h3, h4, h5, h6, h7, h8⟩ := h
  exact ⟨cs, pos, big, seed, cnt, h1, h2, h3, h4, h5, h6, h7, by omega⟩
theorem Bx.pu {u : Nat} {b : Cell} (h : Bx u b) : Cell.pu b = true := by
  obtain ⟨cs, pos, big, seed, cnt, rfl, -⟩ := h
  show PV.pus _ = true
  simp
  exact pus_map _ _ fun _ _ => rfl
section
variable {cs : List Int} {pos big seed cnt : Int} {rest : Sto}
@[simp] theorem ixb0 : idxP (bxc cs pos big seed cnt :: rest) (.ref 0) (.int 0) = some (.lst (cs.map .int)) := rfl
@[simp] theorem ixb1 : idxP (bxc cs pos big seed cnt :: rest) (.ref 0) (.int 1) = some (.int pos) := rfl
@[simp] theorem ixb2 : idxP (bxc cs pos big seed cnt :: rest) (.ref 0) (.int 2) = some (.int big) := rfl
@[simp] theorem ixb3 : idxP (bxc cs pos big seed cnt :: rest) (.ref 0) (.int 3) = some (.int seed) := rfl
@[simp] theorem ixb4 : idxP (bxc cs pos big seed cnt :: rest) (.ref 0) (.int 4) = some (.int cnt) := rfl
@[simp] theorem sxb1 (env : BR.Env) (v : Int) : sixP env (bxc cs pos big seed cnt :: rest) (.ref 0) (.int 1) (.int v) = some (.ok .nx env (bxc cs v big seed cnt :: rest)) := rfl
@[simp] theorem sxb2 (env : BR.Env) (v : Int) : sixP env (bxc cs pos big seed cnt :: rest) (.ref 0) (.int 2) (.int v) = some (.ok .nx env (bxc cs pos v seed cnt :: rest)) := rfl
@[simp] theorem sxb3 (env : BR.Env) (v : Int) : sixP env (bxc cs pos big seed cnt :: rest) (.ref 0) (.int 3) (.int v) = some (.ok .nx env (bxc cs pos big v cnt :: rest)) := rfl
@[simp] theorem sxb4 (env : BR.Env) (v : Int) : sixP env (bxc cs pos big seed cnt :: rest) (.ref 0) (.int 4) (.int v) = some (.ok .nx env (bxc cs pos big seed v :: rest)) := rfl
end
theorem b_pow : bin2 .pow (.int 10) (.int 18) = some (.int 1000000000000000000) := by
  show (if spow 10 18 then some (PV.int (10 ^ (18 : Int).toNat)) else none) = _
  rw [if_pos (by unfold spow; omega)]
  rfl
/-- what take hands on -/
def TkP (u : Nat) (m : Int) (rest : Sto) (v : PV) (st : Sto) : Prop := ∃ d b', v = .int d ∧ 0 ≤ d ∧ d < m ∧ st = b' :: rest ∧ Bx (u + 1) b'
theorem smS {i j : Int} (hi : -1000000000000000000000 ≤ i ∧ i ≤ 1000000000000000000000) (hj : -1000000000000000000000 ≤ j ∧ j ≤ 1000000000000000000000) : smul i j := smul_of (by omega) (by omega)
theorem take_run0 (k : Nat) (u : Nat) (b : Cell) (rest : Sto) (m : Int) (hm : 1 ≤ m ∧ m ≤ 100000) (hu : u ≤ 1000000) (hb : Bx u b) : ∃ v st', runF tab (k + 1) f__law_take [.ref 0, .int m] (b :: rest) = some (.ok v st') ∧ TkP u m rest v st' := by
  obtain ⟨cs, pos, big, seed, cnt, rfl, h1, h2, h3, h4, h5, h6, h7⟩ := hb
  rw [run_eq (d := d__law_take) rfl rfl]
  refine finE_of ?_
  have hm0 : 0 < m := by omega
  have sd : sdiv m := sdiv_of hm0 (by omega)
  have s7 : sdiv 7 := sdiv_of (by omega) (by decide)
  have s32 : sdiv 32 := sdiv_of (by omega) (by decide)
  have t1 : ∀ s : Int, 0 ≤ s → s ≤ 3000000000 → smul s 69621 := fun s a b => smS (by omega) (by omega)
  have t2 : smul (cnt + 1) 40692 := smS (by omega) (by omega)
  have t3 : ∀ w : Int, smul (w % 2147483647 / 7) 48271 := fun w => smS (by omega) (by omega)
  have p1 : (0 : Int) < 2147483647 := by omega
  have p2 : (0 : Int) < 2147483629 := by omega
  have p3 : (0 : Int) < 9973 := by omega
  have p4 : (0 : Int) < 1000000007 := by omega
  have out : ∀ (env : BR.Env) (w s : Int) (pos' : Int), 0 ≤ pos' → 0 ≤ s → s ≤ 3000000000 → FinE (bxc cs pos big seed cnt :: rest) (TkP u m rest) (.ok (.rt (.int (w % m))) env (bxc cs pos' 0 s (cnt + 1) :: rest)) := fun env w s pos' a0 a1 a2 =>
    finE_P0 rfl ⟨_, _, rfl, Int.emod_nonneg _ (by omega), Int.emod_lt_of_pos _ hm0, rfl, cs, pos', 0, s, cnt + 1, rfl, h1, a0, by omega, a1, a2, by omega, by omega⟩
  have outB : ∀ (env : BR.Env) (w : Int) (pos' : Int), 0 ≤ pos' → 0 ≤ w → FinE (bxc cs pos big seed cnt :: rest) (TkP u m rest) (.ok (.rt (.int (w % m))) env (bxc cs pos' (w / m) seed cnt :: rest)) := fun env w pos' a0 a1 =>
    finE_P0 rfl ⟨_, _, rfl, Int.emod_nonneg _ (by omega), Int.emod_lt_of_pos _ hm0, rfl, cs, pos', w / m, seed, cnt, rfl, h1, a0, Int.ediv_nonneg a1 (by omega), h4, h5, h6, by omega⟩
  by_cases c1 : big = 0
  · subst c1
    by_cases c2 : pos < cs.length
    · obtain ⟨x, hx⟩ : ∃ x, cs[pos.toNat]? = some x := ⟨_, List.getElem?_eq_getElem (by omega)⟩
      have x0 := h1 x (List.mem_of_getElem? hx)
      have hix : ∀ σ, idxP σ (.lst (cs.map .int)) (.int pos) = some (.int x) := fun σ => by
        have : idxP σ (.lst (cs.map .int)) (.int pos) = atP (cs.map .int) pos := rfl
        rw [this]
        exact atP_int h2 (by rw [List.getElem?_map, hx]; rfl)
      by_cases c3 : 1000000000000000000 ≤ x
      · have c4 : 0 < x := by omega
        simp [d__law_take, b__law_take, c2, hix, b_pow, c3, c4, sd, hm0]
        exact outB _ x (pos + 1) (by omega) x0
      · have m1 : smul seed 48271 := smS (by omega) (by omega)
        have m2 : smul x 7919 := smS (by omega) (by omega)
        simp [d__law_take, b__law_take, c2, hix, b_pow, c3, m1, m2]
        have t1' := t1 ((seed * 48271 + x * 7919 + 1) % 2147483629) (by omega) (by omega)
        simp [t1', t2, t3, s7, s32, hm0]
        exact out _ _ _ (pos + 1) (by omega) (by omega) (by omega)
    · have t1' := t1 seed h4 h5
      simp [d__law_take, b__law_take, c2, t1', t2, t3, s7, s32, hm0]
      exact out _ _ _ pos h2 (by omega) (by omega)
  · have c4 : 0 < big := by omega
    simp [d__law_take, b__law_take, c1, c4, sd, hm0]
    exact outB _ big pos h2 h3
theorem take_run (k : Nat) (u : Nat) (b : Cell) (rest : Sto) (m : Int) (hm : 1 ≤ m ∧ m ≤ 100000) (hu : u ≤ 1000000) (hb : Bx u b) : ∃ (d : Int) (b' : Cell), 0 ≤ d ∧ d < m ∧ Bx (u + 1) b' ∧ runF tab (k + 1) f__law_take [.ref 0, .int m] (b :: rest) = some (.ok (.int d) (b' :: rest)) := by
  obtain ⟨v, st', e, d, b', rfl, h1, h2, rfl, h3⟩ := take_run0 k u b rest m hm hu hb
  exact ⟨d, b', h1, h2, h3, e⟩
end K87
end
section
set_option Elab.async false
set_option linter.all false
set_option maxRecDepth 100000
set_option maxHeartbeats 4000000
/-! W34: drawn words. -/
namespace K87
open PySem hiding Env exec
open BR KM
theorem letters_def : Str.ofString "abcdefghijklmnopqrstuvwxyz" = letters := rfl
theorem idx_letter {st : Sto} {d : Int} (h0 : 0 ≤ d) (h : d < 26) : idxP st (.str letters) (.int d) = some (.str (SX.S [97 + d.toNat])) := by
  have e : idxP st (.str letters) (.int d) = (L2.ixN letters.cps.toList.length d).bind fun j => (letters.cps.toList[j]?).map fun c => .str ⟨#[c]⟩ := rfl
  rw [e, letters_eq]
  obtain ⟨n, rfl⟩ := Int.eq_ofNat_of_zero_le h0
  rw [ixN_nat (by simp; omega)]
  simp only [Option.bind_some, List.getElem?_map, Int.toNat_natCast]
  rw [List.getElem?_range (by omega)]
  simp
  omega
theorem add_str (a b : List Nat) (h : a.length + b.length ≤ 1000) : bin2 .add (.str (SX.S a)) (.str (SX.S b)) = some (.str (SX.S (a ++ b))) := by
  show (if (SX.S a).length + (SX.S b).length ≤ sizeLine then some (PV.str (SX.S a ++ SX.S b)) else none) = _
  rw [SX.S_len, SX.S_len, if_pos (by rw [sizeLine_eq]; omega), SX.S_cat]
theorem sliH_str (st : Sto) (l : List Nat) (j : Nat) (h : j ≤ l.length) : sliP st (.str (SX.S l)) none (some (j : Int)) = some (.str (SX.S (l.take j))) := by
  show some (PV.str (L2.cutS (SX.S l) none (some (j : Int)))) = _
  unfold L2.cutS
  rw [HT.sIx_none, HT.sIx_nat, List.drop_zero, SX.S_len, Nat.min_eq_left h, Nat.sub_zero]
theorem sliL_str (st : Sto) (l : List Nat) (j : Nat) (h : j ≤ l.length) : sliP st (.str (SX.S l)) (some (j : Int)) none = some (.str (SX.S (l.drop j))) := by
  show some (PV.str (L2.cutS (SX.S l) (some (j : Int)) none)) = _
  unfold L2.cutS
  rw [HT.sIx_none, HT.sIx_nat, SX.S_len, Nat.min_eq_left h, List.take_of_length_le (by simp)]
def isLet (l : List Nat) : Prop := ∀ c ∈ l, 97 ≤ c ∧ c ≤ 122
theorem joinL_nil : ∀ ys : List (List Nat), TL.joinL [] ys = ys.flatten
  | [] => rfl
  | [x] => by simp [TL.joinL]
  | x :: y :: r => by
    have := joinL_nil (y :: r)
    simp only [TL.joinL, List.append_nil] at this ⊢
    rw [this]
    simp
theorem empty_def : Str.ofString "" = SX.S [] := by decide +kernel
theorem join_ok (st : Sto) (xs : List PV) (hx : ∀ x ∈ xs, ∃ c, x = .str (SX.S [c]) ∧ 97 ≤ c ∧ c ≤ 122) (hl : xs.length ≤ 100) : ∃ l, isLet l ∧ l.length = xs.length ∧ bmf st .join (.str (Str.ofString "")) (.lst xs) = some (.str (SX.S l)) := by
  have k : ∀ xs : List PV, (∀ x ∈ xs, ∃ c, x = .str (SX.S [c]) ∧ 97 ≤ c ∧ c ≤ 122) → ∃ l : List Nat, isLet l ∧ l.length = xs.length ∧ strsOf xs = some ((l.map fun c => [c]).map SX.S) := fun xs => by
    induction xs with
    | nil => exact fun _ => ⟨[], (fun _ h => by cases h), rfl, rfl⟩
    | cons x xs ih =>
      intro h
      obtain ⟨c, rfl, h1, h2⟩ := h x (by simp)
      obtain ⟨l, g1, g2, g3⟩ := ih fun y m => h y (by simp [m])
      refine ⟨c :: l, ?_, by simp [g2], by simp [strsOf, g3]⟩
      intro d m
      rcases List.mem_cons.mp m with rfl | m
      · exact ⟨h1, h2⟩
      · exact g1 d m
  obtain ⟨l, h1, h2, h3⟩ := k xs hx
  refine ⟨l, h1, h2, ?_⟩
  have e : bmf st .join (.str (Str.ofString "")) (.lst xs) = (strsOf xs).bind fun ss => if (ss.map (·.length)).sum + ss.length * (Str.ofString "").length ≤ 1000000 ∧ (Txt.join (Str.ofString "") ss).length ≤ 1000000 then some (.str (Txt.join (Str.ofString "") ss)) else none := rfl
  have f : TL.joinL [] (l.map fun c => [c]) = l := by
    rw [joinL_nil]
    clear h1 h2 h3 e
    induction l with
    | nil => rfl
    | cons a l ih =>
      simp only [List.map_cons, List.flatten_cons, ih]
      rfl
  rw [e, h3, empty_def]
  simp only [Option.bind_some]
  rw [SX.join_S, f, if_pos]
  refine ⟨?_, by rw [SX.S_len]; omega⟩
  have : ((l.map fun c => [c]).map SX.S).map (·.length) = l.map fun _ => 1 := by
    rw [List.map_map, List.map_map]
    apply List.map_congr_left
    intro c _
    rfl
  rw [this]
  simp [SX.S_len]
  have : (l.map fun _ => 1).sum = l.length := by
    clear h1 h2 h3 f e this
    induction l with
    | nil => rfl
    | cons a l ih => simp [ih]; omega
  omega
end K87
end
section
set_option Elab.async false
set_option linter.all false
set_option maxRecDepth 100000
set_option maxHeartbeats 4000000
/-! W35: drawn words, second part. -/
namespace K87
open PySem hiding Env exec
open BR KM
theorem lcN_ind {τ υ : Type} (enc : τ → PV) (encO : υ → PV) {g : Sto → Prop} [DecidablePred g] {f : PV → Sto → Mo (Option PV)} (I : Nat → Sto → Prop) (P : τ → υ → Prop) (hg : ∀ n st, I n st → g st) : ∀ (l : List τ), (∀ t ∈ l, ∀ n st, I (n + 1) st → ∃ y st', f (enc t) st = some (.ok (some (encO y)) st') ∧ P t y ∧ I n st') → ∀ st, I l.length st → ∃ ys st', lcL g f (l.map enc) st = some (.ok (ys.map encO) st') ∧ ys.length = l.length ∧ (∀ p ∈ l.zip ys, P p.1 p.2) ∧ I 0 st'
  | [], _, st, h => ⟨[], st, by simp only [List.map_nil, lcL]; rw [if_pos (hg _ _ h)], rfl, by simp, h⟩
  | t :: l, hf, st, h => by
    obtain ⟨y, st1, e1, p1, h1⟩ := hf t (by simp) l.length st h
    obtain ⟨ys, st2, e2, l2, p2, h2⟩ := lcN_ind enc encO I P hg l (fun u m => hf u (by simp [m])) st1 h1
    refine ⟨y :: ys, st2, ?_, by simp [l2], ?_, h2⟩
    · simp only [List.map_cons, lcL]
      rw [if_pos (hg _ _ h), e1]
      simp only []
      rw [e2]
      simp
    · intro q hq
      simp only [List.zip_cons_cons, List.mem_cons] at hq
      rcases hq with rfl | m
      · exact p1
      · exact p2 q m
theorem lcN_Q {τ υ : Type} (enc : τ → PV) (encO : υ → PV) {g : Sto → Prop} [DecidablePred g] {f : PV → Sto → Mo (Option PV)} {k : List PV → Sto → SM} {env : BR.Env} {Q0 : SRe → Prop} {xs : List PV} (I : Nat → Sto → Prop) (P : τ → υ → Prop) (l : List τ) (hx : xs = l.map enc) {st : Sto} (h : I l.length st) (hg : ∀ n st, I n st → g st)
    (hf : ∀ t ∈ l, ∀ n st, I (n + 1) st → ∃ y st', f (enc t) st = some (.ok (some (encO y)) st') ∧ P t y ∧ I n st')
    (hk : ∀ ys st, ys.length = l.length → (∀ p ∈ l.zip ys, P p.1 p.2) → I 0 st → ∃ r, k (ys.map encO) st = some r ∧ Q0 r) :
    ∃ r, stm env (lcL g f xs st) k = some r ∧ Q0 r := by
  subst hx
  obtain ⟨ys, st', e, hl, hp, hi⟩ := lcN_ind enc encO I P hg l hf st h
  rw [e]
  exact hk ys st' hl hp hi
/-- the box on top of a store -/
def Top (rest : Sto) (u n : Nat) (σ : Sto) : Prop := ∃ b, σ = b :: rest ∧ Bx (u - n) b
/-- words: different letters at one place -/
structure Wds (ws : List Str) : Prop where
  nd : ws.Nodup
  wd : ∀ s ∈ ws, ∃ l, s = SX.S l ∧ isLet l ∧ 1 ≤ l.length ∧ l.length ≤ 5
def StPu (rest : Sto) : Prop := StP rest
theorem stP_cons {b : Cell} {rest : Sto} (h1 : Cell.pu b = true) (h2 : StP rest) : StP (b :: rest) := by
  unfold StP at *
  rw [List.all_cons, h1, h2]
  rfl
def wl (l : List Nat) (p f j : Nat) (tl : List Nat) : List Nat := l.take p ++ (97 + (f + 5 * j) % 26) :: (l.drop p ++ tl)
theorem wl_inj {l : List Nat} {p f i j : Nat} {t1 t2 : List Nat} (hp : p ≤ l.length) (hi : i < 26) (hj : j < 26) (h : wl l p f i t1 = wl l p f j t2) : i = j := by
  have e := congrArg (·[p]?) h
  have hl : (l.take p).length = p := by simp; omega
  simp only [wl] at e
  rw [List.getElem?_append_right (by omega), List.getElem?_append_right (by omega), hl, Nat.sub_self] at e
  simp at e
  omega
def WdsP (u m : Nat) (rest : Sto) (v : PV) (st' : Sto) : Prop := ∃ ws b', v = PV.lst (eL ws) ∧ ws.length = m ∧ Wds ws ∧ st' = b' :: rest ∧ Bx (u + 10) b'
theorem words_run (k : Nat) (u : Nat) (b : Cell) (rest : Sto) (m : Nat) (hm : 1 ≤ m ∧ m ≤ 20) (hu : u ≤ 10000) (hb : Bx u b) (hr : StP rest) : ∃ v st', runF tab (k + 2) f__law_words [.ref 0, .int m] (b :: rest) = some (.ok v st') ∧ WdsP u m rest v st' := by
  rw [run_eq (d := d__law_words) rfl rfl]
  refine finE_of ?_
  obtain ⟨d0, b0, d1, d2, hb0, e0⟩ := take_run k u b rest 4 (by omega) (by omega) hb
  simp [d__law_words, b__law_words, q_fors, letters_def, e0, bmR, x_lc, rngL_int d0 d1 (by omega)]
  simp only [bnd_bnd, stm_bnd, sq_stm]
  have hd0 : d0.toNat ≤ 3 := by omega
  refine lcN_Q (fun i : Nat => PV.int i) (fun c : Nat => PV.str (SX.S [c])) (fun n σ => ∃ b', σ = b' :: rest ∧ n ≤ 3 ∧ Bx (u + 4 - n) b') (fun _ c => 97 ≤ c ∧ c ≤ 122) (List.range d0.toNat) rfl ⟨b0, rfl, by simpa using hd0, hb0.mono (by simp; omega)⟩ (fun _ _ _ => trivial) ?_ ?_
  · rintro i - n σ ⟨b', rfl, hn3, hb'⟩
    obtain ⟨d, b2, g1, g2, g3, g4⟩ := take_run k _ b' rest 26 (by omega) (by omega) hb'
    refine ⟨97 + d.toNat, b2 :: rest, ?_, by omega, b2, rfl, by omega, g3.mono (by omega)⟩
    simp [g4, idx_letter g1 g2]
  · rintro ys σ hl hP ⟨b1, rfl, -, hb1⟩
    have hys : ∀ x ∈ ys.map (fun c : Nat => PV.str (SX.S [c])), ∃ c, x = .str (SX.S [c]) ∧ 97 ≤ c ∧ c ≤ 122 := by
      intro x hx
      obtain ⟨c, hc, rfl⟩ := List.mem_map.mp hx
      obtain ⟨i, hi, hci⟩ := List.mem_iff_getElem.mp hc
      have hi2 : i < ((List.range d0.toNat).zip ys).length := by simp [hl]; simpa [hl] using hi
      have := hP _ (List.getElem_mem hi2)
      simp [hci] at this
      exact ⟨c, rfl, this⟩
    obtain ⟨l, w1, w2, w3⟩ := join_ok (b1 :: rest) _ hys (by simp [hl]; omega)
    simp only [List.length_map, hl, List.length_range] at w2
    obtain ⟨dp, b2, p1, p2, hb2, e2⟩ := take_run k _ b1 rest ((l.length : Int) + 1) (by omega) (by omega) hb1
    obtain ⟨df, b3, f1, f2, hb3, e3⟩ := take_run k _ b2 rest 26 (by omega) (by omega) hb2
    obtain ⟨dm, b4, m1, m2, hb4, e4⟩ := take_run k _ b3 rest 64 (by omega) (by omega) hb3
    obtain ⟨p, rfl⟩ := Int.eq_ofNat_of_zero_le p1
    obtain ⟨f, rfl⟩ := Int.eq_ofNat_of_zero_le f1
    simp [w3, SX.S_len, e2, e3, e4, rngL_nat m (by omega)]
    rw [List.range_eq_range']
    let en (mk : Int) : BR.Env := [some (.ref 0), some (.int m), some (.str letters), some (.str (SX.S l)), some (.int p), some (.int f), some (.int mk), some (.ref (b4 :: rest).length), none, none]
    refine for_Q (fun i : Nat => PV.int i) (fun l' env σ => ∃ i mk ws, i ≤ m ∧ 0 ≤ mk ∧ l' = List.range' i (m - i) ∧ env = en mk ∧ σ = (b4 :: rest) ++ [.lst (eL ws)] ∧ ws.length = i ∧ ∀ j s, ws[j]? = some s → ∃ tl, (tl = [] ∨ tl = [97 + f]) ∧ s = SX.S (wl l p f j tl)) _ rfl ⟨0, dm, [], by omega, m1, rfl, rfl, rfl, rfl, by simp⟩ (fun _ _ _ _ => trivial) ?_ ?_
    · rintro env σ ⟨i, mk, ws, hi, hmk, hl', rfl, rfl, hw, hws⟩
      have hi2 : i = m := by
        have := congrArg List.length hl'
        simp at this
        omega
      subst hi2
      have e9 : ((b4 :: rest) ++ [Cell.lst (eL ws)])[(b4 :: rest).length]? = some (.lst (eL ws)) := by simp
      simp only [en, q_seq, q_ret]
      rw [frzLst e9 rfl, set_end1]
      simp only [stm_ok, sq_rt]
      refine ⟨_, rfl, finE_P (by rw [pu_lst]; exact eL_pu _) rfl (stP_cons hb4.pu hr) ⟨ws, b4, rfl, hw, ⟨?_, ?_⟩, rfl, hb4.mono (by omega)⟩⟩
      · refine List.pairwise_iff_getElem.mpr ?_
        intro a c ha hc hac heq
        obtain ⟨t1, -, q1⟩ := hws a _ (List.getElem?_eq_getElem ha)
        obtain ⟨t2, -, q2⟩ := hws c _ (List.getElem?_eq_getElem hc)
        rw [heq, q2] at q1
        have := wl_inj (by omega) (by omega) (by omega) (SX.S_inj q1)
        omega
      · intro s hs
        obtain ⟨j, hj, rfl⟩ := List.mem_iff_getElem.mp hs
        obtain ⟨tl, ht, q⟩ := hws j _ (List.getElem?_eq_getElem hj)
        refine ⟨wl l p f j tl, q, ?_, by simp [wl]; omega, ?_⟩
        · intro c hc
          simp only [wl, List.mem_append, List.mem_cons] at hc
          rcases hc with hc | rfl | hc | hc
          · exact w1 c (List.mem_of_mem_take hc)
          · omega
          · exact w1 c (List.mem_of_mem_drop hc)
          · rcases ht with rfl | rfl
            · cases hc
            · rw [List.mem_singleton] at hc
              omega
        · have : tl.length ≤ 1 := by rcases ht with rfl | rfl <;> simp
          simp [wl]
          omega
    · rintro i l' env σ ⟨j, mk, ws, hj, hmk, hl', rfl, rfl, hw, hws⟩ Q hn hr'
      have hjm : j < m := by
        have := congrArg List.length hl'
        simp at this
        omega
      rw [show m - j = (m - j - 1) + 1 by omega, List.range'_succ] at hl'
      simp only [List.cons.injEq] at hl'
      obtain ⟨rfl, rfl⟩ := hl'
      have x1 : ∀ σ, idxP σ (.str letters) (.int f) = some (.str (SX.S [97 + f])) := fun σ => idx_letter (by omega) f2
      have x2 : ∀ σ, idxP σ (.str letters) (.int (((f : Int) + 5 * i) % 26)) = some (.str (SX.S [97 + (f + 5 * i) % 26])) := fun σ => by
        rw [idx_letter (by omega) (by omega)]
        congr 4
      obtain ⟨tl, ht, x3⟩ : ∃ tl : List Nat, (tl = [] ∨ tl = [97 + f]) ∧ bin2 .mul (.str (SX.S [97 + f])) (.int (mk % 2)) = some (.str (SX.S tl)) := by
        rcases (show mk % 2 = 0 ∨ mk % 2 = 1 by omega) with h | h
        · exact ⟨[], .inl rfl, by rw [h]; rfl⟩
        · exact ⟨[97 + f], .inr rfl, by rw [h]; rfl⟩
      have htl : tl.length ≤ 1 := by rcases ht with rfl | rfl <;> simp
      have x4 := fun σ => sliH_str σ l p (by omega)
      have x5 := fun σ => sliL_str σ l p (by omega)
      have y1 := add_str (l.take p) [97 + (f + 5 * i) % 26] (by simp; omega)
      have y2 := add_str (l.take p ++ [97 + (f + 5 * i) % 26]) (l.drop p) (by simp; omega)
      have y3 := add_str (l.take p ++ [97 + (f + 5 * i) % 26] ++ l.drop p) tl (by simp; omega)
      have y4 : l.take p ++ [97 + (f + 5 * i) % 26] ++ l.drop p ++ tl = wl l p f i tl := by simp [wl]
      rw [y4] at y3
      have y6 := fun (env : BR.Env) => app_end (env := env) (st := b4 :: rest) (xs := eL ws) (.str (SX.S (wl l p f i tl))) (by simp; omega)
      have y7 : eL ws ++ [.str (SX.S (wl l p f i tl))] = eL (ws ++ [SX.S (wl l p f i tl)]) := by simp [eL]
      rw [y7] at y6
      have s5 : smul 5 i := smS (by omega) (by omega)
      have sd2 : sdiv 2 := sdiv_of (by omega) (by decide)
      have hcl := isCL_end (b4 :: rest) (eL ws)
      have hq : Q (.ok .nx (en (mk / 2)) ((b4 :: rest) ++ [.lst (eL (ws ++ [SX.S (wl l p f i tl)]))])) := hn _ _ ⟨i + 1, mk / 2, ws ++ [SX.S (wl l p f i tl)], by omega, by omega, by congr 1, rfl, rfl, by simp [hw], fun j s hjs => by
        by_cases hji : j < ws.length
        · rw [List.getElem?_append_left hji] at hjs
          exact hws j s hjs
        · rw [List.getElem?_append_right (by omega)] at hjs
          have : j - ws.length = 0 := by
            by_cases h0 : j - ws.length = 0
            · exact h0
            · rw [List.getElem?_eq_none (by simp; omega)] at hjs
              cases hjs
          rw [this] at hjs
          cases hjs
          have : j = i := by omega
          subst this
          exact ⟨tl, ht, rfl⟩⟩
      simp only [List.append_assoc, List.cons_append, List.nil_append] at y2 y3
      simp only [List.cons_append, List.length_cons] at hq y6 hcl
      simp [en, x1, x2, x3, x4, x5, y1, y2, y3, y6, s5, sd2, hcl]
      exact hq
end K87
end
section
set_option Elab.async false
set_option linter.all false
set_option maxRecDepth 100000
set_option maxHeartbeats 4000000
/-! W36: drawn names, spans, stays, tests. -/
namespace K87
open PySem hiding Env exec
open BR KM
theorem word_ltr {l : List Nat} (h1 : isLet l) (h2 : 1 ≤ l.length) (h3 : l.length ≤ 5) : ltr l := ⟨h1, h2, by omega⟩
theorem Wds.nam {ws : List Str} (h : Wds ws) : ∀ s ∈ ws, Nam s := fun s m => by
  obtain ⟨l, rfl, h1, h2, h3⟩ := h.wd s m
  exact ⟨l, word_ltr h1 h2 h3, .inl rfl⟩
theorem Wds.sim {ws : List Str} (h : Wds ws) : ∀ s ∈ ws, Sim s := fun s m => by
  obtain ⟨l, rfl, h1, h2, h3⟩ := h.wd s m
  exact ⟨l, word_ltr h1 h2 h3, rfl⟩
theorem Wds.sub {ws vs : List Str} (h : Wds ws) (s : vs.Sublist ws) : Wds vs := ⟨h.nd.sublist s, fun x m => h.wd x (s.subset m)⟩
def DotP (u m : Nat) (rest : Sto) (v : PV) (st' : Sto) : Prop := ∃ ws b', v = PV.lst (eL ws) ∧ ws.length = m ∧ ws.Nodup ∧ (∀ s ∈ ws, Nam s) ∧ st' = b' :: rest ∧ Bx (u + 1) b'
/-- a word with its first letter before it -/
def dot1 (s : Str) : Str := SX.S (s.cps.toList.take 1 ++ 46 :: s.cps.toList)
theorem dotted_run (k : Nat) (u : Nat) (b : Cell) (rest : Sto) (ws : List Str) (hw : Wds ws) (hu : u ≤ 10000) (hb : Bx u b) : ∃ v st', runF tab (k + 2) f__law_dotted [.ref 0, .lst (eL ws)] (b :: rest) = some (.ok v st') ∧ DotP u ws.length rest v st' := by
  rw [run_eq (d := d__law_dotted) rfl rfl]
  refine finE_of ?_
  obtain ⟨d0, b0, d1, d2, hb0, e0⟩ := take_run k u b rest 4 (by omega) (by omega) hb
  by_cases h : d0 = 1
  · subst h
    simp [d__law_dotted, b__law_dotted, e0, x_lc, dot]
    rw [show eL ws = ws.map PV.str from rfl, lcL_map PV.str (fun s => PV.str (dot1 s)) trivial ws (fun s m => by
      obtain ⟨l, rfl, h1, h2, h3⟩ := hw.wd s m
      have a1 := sliH_str (b0 :: rest) l 1 h2
      simp only [show ((1 : Nat) : Int) = 1 from rfl] at a1
      have a2 := add_str (l.take 1) [46] (by simp; omega)
      have a3 := add_str (l.take 1 ++ [46]) l (by simp; omega)
      simp [a1, a2]
      rw [a3]
      simp [dot1])]
    simp
    refine finE_P0 rfl ⟨ws.map dot1, b0, by simp [eL], by simp, ?_, ?_, rfl, hb0⟩
    · refine List.pairwise_iff_getElem.mpr ?_
      intro i j hi hj hij heq
      simp at hi hj heq
      have nd := List.pairwise_iff_getElem.mp hw.nd i j hi hj hij
      obtain ⟨l1, q1, -, l12, -⟩ := hw.wd _ (List.getElem_mem hi)
      obtain ⟨l2, q2, -, l22, -⟩ := hw.wd _ (List.getElem_mem hj)
      rw [q1, q2] at heq nd
      have := SX.S_inj heq
      have e2 := congrArg (List.drop 2) this
      have len : ∀ l : List Nat, 1 ≤ l.length → (l.take 1 ++ 46 :: l).drop 2 = l := fun l hl => by
        cases l with
        | nil => simp at hl
        | cons a l => rfl
      have k1 := len l1 l12
      have k2 := len l2 l22
      simp only [] at e2
      rw [k1, k2] at e2
      exact nd (by rw [e2])
    · intro s hs
      obtain ⟨w, hw', rfl⟩ := List.mem_map.mp hs
      obtain ⟨l, rfl, h1, h2, h3⟩ := hw.wd w hw'
      refine ⟨l, word_ltr h1 h2 h3, .inr ⟨l.take 1, ⟨fun c hc => h1 c (List.mem_of_mem_take hc), by simp; omega, by simp; omega⟩, ?_⟩⟩
      simp [dot1]
  · simp [d__law_dotted, b__law_dotted, e0, h]
    exact finE_P0 rfl ⟨ws, b0, rfl, rfl, hw.nd, hw.nam, rfl, hb0⟩
def SpP (u : Nat) (top : Int) (rest : Sto) (v : PV) (st' : Sto) : Prop := ∃ s b', v = eSp s ∧ Lw s ∧ s.1.1 ≤ top ∧ (∀ e, s.2 = some e → e.1 ≤ top) ∧ st' = b' :: rest ∧ Bx (u + 5) b'
theorem span_run (k : Nat) (u : Nat) (b : Cell) (rest : Sto) (top : Int) (ht : 0 ≤ top ∧ top ≤ 100) (hu : u ≤ 10000) (hb : Bx u b) : ∃ v st', runF tab (k + 2) f__law_span [.ref 0, .int top] (b :: rest) = some (.ok v st') ∧ SpP u top rest v st' := by
  rw [run_eq (d := d__law_span) rfl rfl]
  refine finE_of ?_
  obtain ⟨l, b1, l0, l1, hb1, e1⟩ := take_run k u b rest (top + 1) (by omega) (by omega) hb
  obtain ⟨r, b2, r0, r1, hb2, e2⟩ := take_run k _ b1 rest 2 (by omega) (by omega) hb1
  obtain ⟨c, b3, c0, c1, hb3, e3⟩ := take_run k _ b2 rest 3 (by omega) (by omega) hb2
  have i0 : ∀ σ, idxP σ (.tup [.int l, .int r]) (.int 0) = some (.int l) := fun _ => rfl
  by_cases hc : c = 0
  · subst hc
    simp [d__law_span, b__law_span, e1, e2, e3]
    have le1 : Le (l, r) := by
      unfold Le
      simp only []
      omega
    have no : ∀ {P : Prop} (e : Edge), (none : Option Edge) = some e → P := fun e h => by cases h
    exact finE_P0 rfl ⟨((l, r), none), b3, rfl, ⟨⟨le1, fun e h => no e h⟩, l0, fun e h => no e h⟩, (by simp only []; omega), (fun e h => no e h), rfl, hb3.mono (by omega)⟩
  · obtain ⟨h, b4, h0, h1, hb4, e4⟩ := take_run k _ b3 rest (top + 1 - l) (by omega) (by omega) hb3
    obtain ⟨q, b5, q0, q1, hb5, e5⟩ := take_run k _ b4 rest 2 (by omega) (by omega) hb4
    have j0 : ∀ σ, idxP σ (.tup [.int (l + h), .int q]) (.int 0) = some (.int (l + h)) := fun _ => rfl
    by_cases hh : h = 0
    · subst hh
      simp only [Int.add_zero] at j0
      simp [d__law_span, b__law_span, e1, e2, e3, e4, e5, hc, i0, j0]
      have le1 : Le (l, 1) := ⟨by simp only []; omega, by simp only []; omega, .inr rfl⟩
      exact finE_P0 rfl ⟨((l, 1), some (l, 1)), b5, rfl, ⟨⟨le1, fun e h => by cases h; exact le1⟩, l0, fun e h => by cases h; exact .inr ⟨rfl, rfl, rfl⟩⟩, (by simp only []; omega), (fun e h => by cases h; simp only []; omega), rfl, hb5.mono (by omega)⟩
    · have hne : ¬ l + h = l := by omega
      simp [d__law_span, b__law_span, e1, e2, e3, e4, e5, hc, i0, j0, hne]
      have le1 : Le (l, r) := by
        unfold Le
        simp only []
        omega
      have le2 : Le (l + h, q) := by
        unfold Le
        simp only []
        omega
      exact finE_P0 rfl ⟨((l, r), some (l + h, q)), b5, rfl, ⟨⟨le1, fun e h => by cases h; exact le2⟩, l0, fun e h => by cases h; exact .inl (by simp only []; omega)⟩, (by simp only []; omega), (fun e h => by cases h; simp only []; omega), rfl, hb5.mono (by omega)⟩
/-- an edge that may stand in a stay -/
def StyP (u : Nat) (cl : List Str) (top : Int) (rest : Sto) (v : PV) (st' : Sto) : Prop := ∃ l b', v = eStay l ∧ (l.map (·.1)).Sublist cl ∧ (∀ p ∈ l, Le p.2 ∧ 0 ≤ p.2.1 ∧ p.2 ≠ (0, 0) ∧ p.2.1 ≤ top) ∧ st' = b' :: rest ∧ Bx (u + 3 * cl.length) b'
theorem stayd_run (k : Nat) (u : Nat) (b : Cell) (rest : Sto) (cl : List Str) (hcl : cl.length ≤ 6) (top : Int) (ht : 1 ≤ top ∧ top ≤ 100) (hu : u ≤ 10000) (hb : Bx u b) (hr : StP rest) : ∃ v st', runF tab (k + 2) f__law_stay [.ref 0, .tpd (eL cl), .int top] (b :: rest) = some (.ok v st') ∧ StyP u cl top rest v st' := by
  rw [run_eq (d := d__law_stay) rfl rfl]
  refine finE_of ?_
  simp [d__law_stay, b__law_stay, q_fors]
  let en : BR.Env := [some (.ref 0), some (.tpd (eL cl)), some (.int top), some (.ref (rest.length + 1)), none, none]
  refine for_Q PV.str (fun l env σ => ∃ (b' : Cell) (dn : List Str) (xs : List (Str × Edge)), env = en ∧ σ = b' :: (rest ++ [.lst (xs.map (ePr eE))]) ∧ cl = dn ++ l ∧ (xs.map (·.1)).Sublist dn ∧ (∀ p ∈ xs, Le p.2 ∧ 0 ≤ p.2.1 ∧ p.2 ≠ (0, 0) ∧ p.2.1 ≤ top) ∧ Bx (u + 3 * dn.length) b') cl rfl ⟨b, [], [], rfl, rfl, rfl, .slnil, by simp, hb⟩ (fun _ _ _ _ => trivial) ?_ ?_
  · rintro env σ ⟨b', dn, xs, rfl, rfl, hd, hs, hx, hb'⟩
    rw [List.append_nil] at hd
    subst hd
    have e1 : (b' :: (rest ++ [Cell.lst (xs.map (ePr eE))]))[rest.length + 1]? = some (.lst (xs.map (ePr eE))) := by simp
    simp [en, tuple_ref e1]
    exact finE_P (st' := b' :: rest) (ext := [.lst (xs.map (ePr eE))]) (stay_pu xs) rfl (stP_cons hb'.pu hr) ⟨xs, b', rfl, hs, hx, rfl, hb'⟩
  · rintro s l env σ ⟨b', dn, xs, rfl, rfl, hd, hs, hx, hb'⟩ Q hn hr'
    have hdn : dn.length < 6 := by
      have := congrArg List.length hd
      simp at this
      omega
    have hxl : xs.length ≤ 6 := by
      have := hs.length_le
      simp at this
      omega
    obtain ⟨c, b1, c0, c1, hb1, e1⟩ := take_run (k) _ b' (rest ++ [.lst (xs.map (ePr eE))]) 5 (by omega) (by omega) hb'
    by_cases hc : 2 < c
    · obtain ⟨x, b2, x0, x1, hb2, e2⟩ := take_run (k) _ b1 (rest ++ [.lst (xs.map (ePr eE))]) (top + 1) (by omega) (by omega) hb1
      obtain ⟨y, b3, y0, y1, hb3, e3⟩ := take_run (k) _ b2 (rest ++ [.lst (xs.map (ePr eE))]) 2 (by omega) (by omega) hb2
      have pq : peq (.tup [.int x, .int y]) (.tup [.int 0, .int 0]) = some (decide ((x, y) = ((0, 0) : Edge))) := peq_eE (x, y) (0, 0)
      have ap := fun (env : BR.Env) (v : PV) => app_end (env := env) (st := b3 :: rest) (xs := xs.map (ePr eE)) v (by simp; omega)
      have ic := isCL_end (b1 :: rest) (xs.map (ePr eE))
      simp only [List.cons_append, List.length_cons] at ap
      have ic2 : ∀ b3, isCL (b3 :: (rest ++ [.lst (xs.map (ePr eE))])) (.ref (rest.length + 1)) = true := fun b3 => isCL_end (b3 :: rest) (xs.map (ePr eE))
      have fin' : ∀ e : Edge, Le e → 0 ≤ e.1 → e ≠ (0, 0) → e.1 ≤ top → Q (.ok .nx en (b3 :: (rest ++ [.lst (xs.map (ePr eE) ++ [.tup [.str s, .tup [.int e.1, .int e.2]]])]))) := fun e g1 g2 g3 g4 => hn _ _ ⟨b3, dn ++ [s], xs ++ [(s, e)], rfl, by simp [ePr, eE], by simp [hd], by simpa using hs.append (List.Sublist.refl [s]), fun p m => by
        rcases List.mem_append.mp m with m | m
        · exact hx p m
        · rw [List.mem_singleton] at m
          subst m
          exact ⟨g1, g2, g3, g4⟩, hb3.mono (by simp; omega)⟩
      by_cases hz : (x, y) = ((0, 0) : Edge)
      · have f := fin' (top, 1) ⟨by simp only []; omega, by simp only []; omega, .inr rfl⟩ (by simp only []; omega) (by intro e; have := congrArg Prod.snd e; simp at this) (by simp)
        simp only [] at f
        simp [en, e1, hc, e2, e3, pq, hz, ic2, ap]
        exact f
      · have f := fin' (x, y) (by unfold Le; simp only []; omega) (by simp only []; omega) hz (by simp only []; omega)
        simp only [] at f
        simp [en, e1, hc, e2, e3, pq, hz, ic2, ap]
        exact f
    · simp [en, e1, hc]
      exact hn _ _ ⟨b1, dn ++ [s], xs, rfl, rfl, by simp [hd], hs.trans (List.sublist_append_left _ _), hx, hb1.mono (by simp; omega)⟩
end K87
end
section
set_option Elab.async false
set_option linter.all false
set_option maxRecDepth 100000
set_option maxHeartbeats 4000000
/-! W37: drawn tests, steps. -/
namespace K87
open PySem hiding Env exec
open BR KM
def limS (s : Span) (top : Int) : Prop := s.1.1 ≤ top ∧ ∀ e, s.2 = some e → e.1 ≤ top
def TstP (u : Nat) (cl : List Str) (top : Int) (rest : Sto) (v : PV) (st' : Sto) : Prop := ∃ l b', v = eTest l ∧ (l.map (·.1)).Sublist cl ∧ (∀ p ∈ l, Lw p.2 ∧ limS p.2 top) ∧ st' = b' :: rest ∧ Bx (u + 6 * cl.length) b'
theorem testd_run (k : Nat) (u : Nat) (b : Cell) (rest : Sto) (cl : List Str) (hcl : cl.length ≤ 6) (top : Int) (ht : 1 ≤ top ∧ top ≤ 100) (hu : u ≤ 9000) (hb : Bx u b) (hr : StP rest) : ∃ v st', runF tab (k + 3) f__law_test [.ref 0, .tpd (eL cl), .int top] (b :: rest) = some (.ok v st') ∧ TstP u cl top rest v st' := by
  rw [run_eq (d := d__law_test) rfl rfl]
  refine finE_of ?_
  simp [d__law_test, b__law_test, q_fors]
  let en : BR.Env := [some (.ref 0), some (.tpd (eL cl)), some (.int top), some (.ref (rest.length + 1)), none]
  refine for_Q PV.str (fun l env σ => ∃ (b' : Cell) (dn : List Str) (xs : List (Str × Span)), env = en ∧ σ = b' :: (rest ++ [.lst (xs.map (ePr eSp))]) ∧ cl = dn ++ l ∧ (xs.map (·.1)).Sublist dn ∧ (∀ p ∈ xs, Lw p.2 ∧ limS p.2 top) ∧ Bx (u + 6 * dn.length) b') cl rfl ⟨b, [], [], rfl, rfl, rfl, .slnil, by simp, hb⟩ (fun _ _ _ _ => trivial) ?_ ?_
  · rintro env σ ⟨b', dn, xs, rfl, rfl, hd, hs, hx, hb'⟩
    rw [List.append_nil] at hd
    subst hd
    have e1 : (b' :: (rest ++ [Cell.lst (xs.map (ePr eSp))]))[rest.length + 1]? = some (.lst (xs.map (ePr eSp))) := by simp
    simp [en, tuple_ref e1]
    exact finE_P (st' := b' :: rest) (ext := [.lst (xs.map (ePr eSp))]) (test_pu xs) rfl (stP_cons hb'.pu hr) ⟨xs, b', rfl, hs, hx, rfl, hb'⟩
  · rintro s l env σ ⟨b', dn, xs, rfl, rfl, hd, hs, hx, hb'⟩ Q hn hr'
    have hdn : dn.length < 6 := by
      have := congrArg List.length hd
      simp at this
      omega
    have hxl : xs.length ≤ 6 := by
      have := hs.length_le
      simp at this
      omega
    obtain ⟨c, b1, c0, c1, hb1, e1⟩ := take_run (k + 1) _ b' (rest ++ [.lst (xs.map (ePr eSp))]) 5 (by omega) (by omega) hb'
    have ic2 : ∀ b3, isCL (b3 :: (rest ++ [.lst (xs.map (ePr eSp))])) (.ref (rest.length + 1)) = true := fun b3 => isCL_end (b3 :: rest) (xs.map (ePr eSp))
    by_cases hc : 1 < c
    · obtain ⟨v, st', e2, sp, b3, rfl, g1, g2, g3, rfl, hb3⟩ := span_run k _ b1 (rest ++ [.lst (xs.map (ePr eSp))]) top (by omega) (by omega) hb1
      have ap := fun (env : BR.Env) (v : PV) => app_end (env := env) (st := b3 :: rest) (xs := xs.map (ePr eSp)) v (by simp; omega)
      simp only [List.cons_append, List.length_cons] at ap
      simp [en, e1, hc, e2, ic2, ap]
      refine hn _ _ ⟨b3, dn ++ [s], xs ++ [(s, sp)], rfl, by simp [ePr], by simp [hd], by simpa using hs.append (List.Sublist.refl [s]), fun p m => ?_, hb3.mono (by simp; omega)⟩
      rcases List.mem_append.mp m with m | m
      · exact hx p m
      · rw [List.mem_singleton] at m
        subst m
        exact ⟨g1, g2, g3⟩
    · simp [en, e1, hc]
      exact hn _ _ ⟨b1, dn ++ [s], xs, rfl, rfl, by simp [hd], hs.trans (List.sublist_append_left _ _), hx, hb1.mono (by simp; omega)⟩
def SomP (u : Nat) (cl : List Str) (rest : Sto) (v : PV) (st' : Sto) : Prop := ∃ l b', v = PV.tup (eL l) ∧ l.Sublist cl ∧ st' = b' :: rest ∧ Bx (u + cl.length) b'
theorem some_run (k : Nat) (u : Nat) (b : Cell) (rest : Sto) (cl : List Str) (hcl : cl.length ≤ 6) (x : PV) (hx : x = .tpd (eL cl) ∨ x = .lst (eL cl)) (hu : u ≤ 9900) (hb : Bx u b) (hr : StP rest) : ∃ v st', runF tab (k + 2) f__law_some [.ref 0, x] (b :: rest) = some (.ok v st') ∧ SomP u cl rest v st' := by
  rw [run_eq (d := d__law_some) rfl rfl]
  refine finE_of ?_
  have hw : ∀ σ, walked σ x = some (eL cl, none) := fun σ => by rcases hx with rfl | rfl <;> rfl
  simp [d__law_some, b__law_some, q_fors, hw]
  let en : BR.Env := [some (.ref 0), some x, some (.ref (rest.length + 1)), none]
  refine for_Q PV.str (fun l env σ => ∃ (b' : Cell) (dn : List Str) (xs : List Str), env = en ∧ σ = b' :: (rest ++ [.lst (eL xs)]) ∧ cl = dn ++ l ∧ xs.Sublist dn ∧ Bx (u + dn.length) b') cl rfl ⟨b, [], [], rfl, rfl, rfl, .slnil, hb⟩ (fun _ _ _ _ => trivial) ?_ ?_
  · rintro env σ ⟨b', dn, xs, rfl, rfl, hd, hs, hb'⟩
    rw [List.append_nil] at hd
    subst hd
    have e1 : (b' :: (rest ++ [Cell.lst (eL xs)]))[rest.length + 1]? = some (.lst (eL xs)) := by simp
    simp [en, tuple_ref e1]
    exact finE_P (st' := b' :: rest) (ext := [.lst (eL xs)]) (by rw [pu_tup]; exact eL_pu xs) rfl (stP_cons hb'.pu hr) ⟨xs, b', rfl, hs, rfl, hb'⟩
  · rintro s l env σ ⟨b', dn, xs, rfl, rfl, hd, hs, hb'⟩ Q hn hr'
    have hdn : dn.length < 6 := by
      have := congrArg List.length hd
      simp at this
      omega
    have hxl : xs.length ≤ 6 := by
      have := hs.length_le
      omega
    obtain ⟨c, b1, c0, c1, hb1, e1⟩ := take_run k _ b' (rest ++ [.lst (eL xs)]) 2 (by omega) (by omega) hb'
    have ic2 : ∀ b3, isCL (b3 :: (rest ++ [.lst (eL xs)])) (.ref (rest.length + 1)) = true := fun b3 => isCL_end (b3 :: rest) (eL xs)
    by_cases hc : c = 1
    · have ap := fun (env : BR.Env) (v : PV) => app_end (env := env) (st := b1 :: rest) (xs := eL xs) v (by simp; omega)
      simp only [List.cons_append, List.length_cons] at ap
      simp [en, e1, hc, ic2, ap]
      exact hn _ _ ⟨b1, dn ++ [s], xs ++ [s], rfl, by simp [eL], by simp [hd], hs.append (List.Sublist.refl [s]), hb1.mono (by simp; omega)⟩
    · simp [en, e1, hc]
      exact hn _ _ ⟨b1, dn ++ [s], xs, rfl, rfl, by simp [hd], hs.trans (List.sublist_append_left _ _), hb1.mono (by simp; omega)⟩
def StpP (u : Nat) (cl names deeds : List Str) (top : Int) (rest : Sto) (v : PV) (st' : Sto) : Prop := ∃ (p : Stp Str) (b' : Cell), v = eStp p ∧ p.src ∈ names ∧ p.tgt ∈ names ∧ p.deed ∈ deeds ∧ (p.test.map (·.1)).Sublist cl ∧ (∀ q ∈ p.test, Lw q.2 ∧ limS q.2 top) ∧ p.res.Sublist cl ∧ st' = b' :: rest ∧ Bx (u + 60) b'
theorem idx_lstN {st : Sto} {l : List Str} {d : Int} (h0 : 0 ≤ d) (h : d < l.length) : ∃ s, idxP st (.lst (eL l)) (.int d) = some (.str s) ∧ s ∈ l := by
  obtain ⟨n, rfl⟩ := Int.eq_ofNat_of_zero_le h0
  have hn : n < l.length := by omega
  exact ⟨l[n], idx_lst (by simp [eL, List.getElem?_eq_getElem hn]), List.getElem_mem hn⟩
theorem stepd_run (k : Nat) (u : Nat) (b : Cell) (rest : Sto) (cl names deeds : List Str) (hcl : cl.length ≤ 6) (hn : 1 ≤ names.length ∧ names.length ≤ 100) (hd : 1 ≤ deeds.length ∧ deeds.length ≤ 100) (top : Int) (ht : 1 ≤ top ∧ top ≤ 100) (hu : u ≤ 8000) (hb : Bx u b) (hr : StP rest) :
    ∃ v st', runF tab (k + 4) f__law_step [.ref 0, .tpd (eL cl), .lst (eL names), .lst (eL deeds), .int top] (b :: rest) = some (.ok v st') ∧ StpP u cl names deeds top rest v st' := by
  rw [run_eq (d := d__law_step) rfl rfl]
  refine finE_of ?_
  obtain ⟨a, b1, a0, a1, hb1, e1⟩ := take_run (k + 2) _ b rest names.length (by omega) (by omega) hb
  obtain ⟨c, b2, c0, c1, hb2, e2⟩ := take_run (k + 2) _ b1 rest names.length (by omega) (by omega) hb1
  obtain ⟨d, b3, d0, d1, hb3, e3⟩ := take_run (k + 2) _ b2 rest deeds.length (by omega) (by omega) hb2
  obtain ⟨v, st', e4, t, b4, rfl, t1, t2, rfl, hb4⟩ := testd_run k _ b3 rest cl hcl top ht (by omega) hb3 hr
  obtain ⟨v, st', e5, rs, b5, rfl, r1, rfl, hb5⟩ := some_run (k + 1) _ b4 rest cl hcl (.tpd (eL cl)) (.inl rfl) (by omega) hb4 hr
  obtain ⟨s1, i1, m1⟩ := idx_lstN (st := b1 :: rest) a0 a1
  obtain ⟨s2, i2, m2⟩ := idx_lstN (st := b2 :: rest) c0 c1
  obtain ⟨s3, i3, m3⟩ := idx_lstN (st := b3 :: rest) d0 d1
  simp [d__law_step, b__law_step, e1, e2, e3, e4, e5, i1, i2, i3]
  exact finE_P0 rfl ⟨⟨s1, s3, t, rs, s2⟩, b5, rfl, m1, m2, m3, t1, t2, r1, rfl, hb5.mono (by omega)⟩
end K87
end
section
set_option Elab.async false
set_option linter.all false
set_option maxRecDepth 100000
set_option maxHeartbeats 4000000
/-! W38: the drawn card. -/
namespace K87
open PySem hiding Env exec
open BR KM
theorem sliB_lst (st : Sto) (xs : List PV) (i j : Nat) (hi : i ≤ xs.length) (hj : j ≤ xs.length) : sliP st (.lst xs) (some (i : Int)) (some (j : Int)) = some (.lst ((xs.drop i).take (j - i))) := by
  show some (PV.lst (cutP xs (some (i : Int)) (some (j : Int)))) = _
  unfold cutP
  rw [HT.sIx_nat, HT.sIx_nat, Nat.min_eq_left hi, Nat.min_eq_left hj]
theorem sliL_lst (st : Sto) (xs : List PV) (j : Nat) (h : j ≤ xs.length) : sliP st (.lst xs) (some (j : Int)) none = some (.lst (xs.drop j)) := by
  show some (PV.lst (cutP xs (some (j : Int)) none)) = _
  unfold cutP
  rw [HT.sIx_none, HT.sIx_nat, Nat.min_eq_left h, List.take_of_length_le (by simp)]
theorem eL_drop (l : List Str) (n : Nat) : (eL l).drop n = eL (l.drop n) := by simp [eL]
theorem eL_take (l : List Str) (n : Nat) : (eL l).take n = eL (l.take n) := by simp [eL]
/-- limits of a card -/
structure LimC (c : Crd Str) (top : Int) : Prop where
  st : ∀ p ∈ c.sts, ∀ q ∈ p.2, q.2.1 ≤ top
  sp : ∀ p ∈ c.steps, ∀ q ∈ p.test, limS q.2 top
/-- a drawn step -/
structure SOk (cl names deeds : List Str) (top : Int) (p : Stp Str) : Prop where
  src : p.src ∈ names
  tgt : p.tgt ∈ names
  deed : p.deed ∈ deeds
  ts : (p.test.map (·.1)).Sublist cl
  tl : ∀ q ∈ p.test, Lw q.2 ∧ limS q.2 top
  rs : p.res.Sublist cl
theorem SOk.step {c : Crd Str} {deeds : List Str} {top : Int} {p : Stp Str} (h : SOk c.cl (c.sts.map (·.1)) deeds top p) (hn : c.cl.Nodup) (hl : c.cl.length ≤ 6) (hd : ∀ s ∈ deeds, Sim s) : StepOk c p := by
  refine ⟨h.src, h.tgt, hd _ h.deed, ⟨hn.sublist h.ts, fun q m => h.ts.subset (List.mem_map.mpr ⟨q, m, rfl⟩), ?_, fun q m => (h.tl q m).1⟩, hn.sublist h.rs, fun s m => h.rs.subset m, ?_⟩
  · have := h.ts.length_le
    simp at this
    omega
  · have := h.rs.length_le
    omega
def CrdP (u : Nat) (top : Int) (rest : Sto) (v : PV) (st' : Sto) : Prop := ∃ c b', v = eCrd c ∧ CardOk c ∧ LimC c top ∧ st' = b' :: rest ∧ Bx (u + 1000) b'
theorem card_run (k : Nat) (u : Nat) (b : Cell) (rest : Sto) (na nb nc : Nat) (hna : 1 ≤ na ∧ na ≤ 3) (hnb : 1 ≤ nb ∧ nb ≤ 3) (hnc : nc ≤ 6) (deeds : List Str) (hds : Wds deeds) (hdl : 1 ≤ deeds.length ∧ deeds.length ≤ 3) (top : Int) (ht : 1 ≤ top ∧ top ≤ 100) (hu : u ≤ 5000) (hb : Bx u b) (hr : StP rest) :
    ∃ v st', runF tab (k + 5) f__law_card [.ref 0, .tup [.int na, .int nb, .int nc], .int top, .lst (eL deeds)] (b :: rest) = some (.ok v st') ∧ CrdP u top rest v st' := by
  rw [run_eq (d := d__law_card) rfl rfl]
  refine finE_of ?_
  obtain ⟨v, st', e1, ws, b1, rfl, wl, wd, rfl, hb1⟩ := words_run (k + 2) u b rest (1 + na + nb) (by omega) (by omega) hb hr
  rw [show ((1 + na + nb : Nat) : Int) = 1 + (na : Int) + nb by omega] at e1
  have hdw : Wds (ws.drop (1 + na)) := wd.sub (List.drop_sublist _ _)
  obtain ⟨v, st', e2, nm, b2, rfl, nl, nn, nnm, rfl, hb2⟩ := dotted_run (k + 2) _ b1 rest (ws.drop (1 + na)) hdw (by omega) hb1
  have nl3 : nm.length = nb := by rw [nl, List.length_drop, wl]; omega
  generalize hcl : (ws.drop 1).take na = cl
  have cll : cl.length = na := by rw [← hcl, List.length_take, List.length_drop, wl]; omega
  have cls : cl.Sublist ws := by rw [← hcl]; exact (List.take_sublist _ _).trans (List.drop_sublist _ _)
  have s1 : ∀ σ, sliP σ (.lst (eL ws)) (some 1) (some (1 + (na : Int))) = some (.lst (eL cl)) := fun σ => by
    have := sliB_lst σ (eL ws) 1 (1 + na) (by simp; omega) (by simp; omega)
    rw [eL_drop, eL_take, show 1 + na - 1 = na by omega, hcl] at this
    rw [show (1 + (na : Int)) = ((1 + na : Nat) : Int) by omega]
    exact this
  have s2 : ∀ σ, sliP σ (.lst (eL ws)) (some (1 + (na : Int))) none = some (.lst (eL (ws.drop (1 + na)))) := fun σ => by
    have := sliL_lst σ (eL ws) (1 + na) (by simp; omega)
    rw [eL_drop] at this
    rw [show (1 + (na : Int)) = ((1 + na : Nat) : Int) by omega]
    exact this
  have i0 : ∀ σ, idxP σ (.tup [.int na, .int nb, .int nc]) (.int 0) = some (.int na) := fun _ => rfl
  have i1 : ∀ σ, idxP σ (.tup [.int na, .int nb, .int nc]) (.int 1) = some (.int nb) := fun _ => rfl
  have i2 : ∀ σ, idxP σ (.tup [.int na, .int nb, .int nc]) (.int 2) = some (.int nc) := fun _ => rfl
  simp [d__law_card, b__law_card, i0, i1, i2, e1, s1, s2, e2, q_fors, x_lc]
  simp only [bnd_bnd, stm_bnd, sq_stm]
  refine lcN_Q PV.str eSta (fun n σ => ∃ b', σ = b' :: rest ∧ n ≤ 3 ∧ Bx (u + 11 + 18 * (3 - n)) b') (fun t (y : Str × List (Str × Edge)) => y.1 = t ∧ (y.2.map (·.1)).Sublist cl ∧ ∀ p ∈ y.2, Le p.2 ∧ 0 ≤ p.2.1 ∧ p.2 ≠ (0, 0) ∧ p.2.1 ≤ top) nm rfl ⟨b2, rfl, by omega, hb2.mono (by omega)⟩ (fun _ _ _ => trivial) ?_ ?_
  · rintro s m n σ ⟨b', rfl, hn3, hb'⟩
    obtain ⟨v, st', e3, l, b3, rfl, l1, l2, rfl, hb3⟩ := stayd_run (k + 2) _ b' rest cl (by omega) top ht (by omega) hb' hr
    refine ⟨(s, l), b3 :: rest, ?_, ⟨rfl, l1, l2⟩, b3, rfl, by omega, hb3.mono (by omega)⟩
    simp [e3]
    rfl
  · rintro sts σ hl hP ⟨b3, rfl, -, hb3⟩
    have hfst : sts.map (·.1) = nm := by
      apply List.ext_getElem
      · simp [hl]
      · intro i h1 h2
        have hz : i < (nm.zip sts).length := by simp [hl]; simpa [hl] using h1
        have := hP _ (List.getElem_mem hz)
        simp at this
        simp [this.1]
    have hst : ∀ y ∈ sts, (y.2.map (·.1)).Sublist cl ∧ ∀ p ∈ y.2, Le p.2 ∧ 0 ≤ p.2.1 ∧ p.2 ≠ (0, 0) ∧ p.2.1 ≤ top := by
      intro y hy
      obtain ⟨i, hi, rfl⟩ := List.mem_iff_getElem.mp hy
      have hz : i < (nm.zip sts).length := by simp [hl]; simpa [hl] using hi
      have := hP _ (List.getElem_mem hz)
      simp only [List.getElem_zip] at this
      exact this.2
    simp [i2, rngL_nat nc (by omega)]
    rw [List.range_eq_range']
    let en : BR.Env := [some (.ref 0), some (.tup [.int na, .int nb, .int nc]), some (.int top), some (.lst (eL deeds)), some (.lst (eL ws)), some (.tpd (eL cl)), some (.lst (eL nm)), some (.tup (sts.map eSta)), some (.ref (rest.length + 1)), none, none, none, none]
    refine for_Q (fun i : Nat => PV.int i) (fun l env σ => ∃ (j : Nat) (b' : Cell) (ps : List (Stp Str)), j ≤ nc ∧ l = List.range' j (nc - j) ∧ env = en ∧ σ = b' :: (rest ++ [.lst (ps.map eStp)]) ∧ ps.length = j ∧ (∀ p ∈ ps, SOk cl nm deeds top p) ∧ Bx (u + 70 + 61 * j) b') _ rfl ⟨0, b3, [], by omega, rfl, rfl, rfl, rfl, by simp, hb3.mono (by omega)⟩ (fun _ _ _ _ => trivial) ?_ ?_
    · rintro env σ ⟨j, b', ps, hj, hl', rfl, rfl, hp, hps, hb'⟩
      have hj2 : j = nc := by
        have := congrArg List.length hl'
        simp at this
        omega
      subst hj2
      have hpu : StP (rest ++ [Cell.lst (ps.map eStp)]) := by
        unfold StP at hr ⊢
        rw [List.all_append, hr]
        simp
        show PV.pus _ = true
        exact pus_map _ _ fun p _ => stp_pu p
      obtain ⟨v, st', e4, al, b4, rfl, a1, rfl, hb4⟩ := some_run (k + 2) _ b' (rest ++ [.lst (ps.map eStp)]) deeds (by omega) (.lst (eL deeds)) (.inr rfl) (by omega) hb' hpu
      have e5 : (b' :: (rest ++ [Cell.lst (ps.map eStp)]))[rest.length + 1]? = some (.lst (ps.map eStp)) := by simp
      have w0 : 0 < ws.length := by omega
      have i3 : ∀ σ, idxP σ (.lst (eL ws)) (.int 0) = some (.str ws[0]) := fun σ => idx_lst (i := 0) (by simp [eL, List.getElem?_eq_getElem w0])
      simp [en, i3, tuple_ref e5, e4]
      let c : Crd Str := ⟨ws[0], cl, sts, ps, al⟩
      have hn : cl.Nodup := wd.nd.sublist cls
      have nmx : c.sts.map (·.1) = nm := hfst
      have ok : CardOk c := {
        name := wd.nam _ (List.getElem_mem w0)
        clnd := hn
        clnm := fun s m => wd.nam s (cls.subset m)
        cl0 := by intro e; have := congrArg List.length e; simp [c, cll] at this; omega
        cl6 := by show cl.length ≤ 6; omega
        st0 := by intro e; have := congrArg List.length e; simp [c, hl, nl3] at this; omega
        st64 := by show sts.length ≤ 64; omega
        stnd := by rw [nmx]; exact nn
        stnm := fun p m => nnm p.1 (by rw [← nmx]; exact List.mem_map.mpr ⟨p, m, rfl⟩)
        stok := fun p m => by
          obtain ⟨q1, q2⟩ := hst p m
          refine ⟨hn.sublist q1, fun q m => q1.subset (List.mem_map.mpr ⟨q, m, rfl⟩), ?_, fun q m => ⟨(q2 q m).1, (q2 q m).2.1, (q2 q m).2.2.1⟩⟩
          have := q1.length_le
          simp at this
          omega
        sp400 := by show ps.length ≤ 50; omega
        spok := fun p m => SOk.step (c := c) (deeds := deeds) (top := top) (by rw [nmx]; exact hps p m) hn (by show cl.length ≤ 6; omega) hds.sim
        alnd := hds.nd.sublist a1
        alsm := fun s m => hds.sim s (a1.subset m)
        allen := by show al.length ≤ 10; have := a1.length_le; omega }
      have cpu : PV.pu (eCrd c) = true := by
        have b1 : PV.pus (sts.map eSta) = true := pus_map _ _ fun p _ => sta_pu p
        have b2 : PV.pus (ps.map eStp) = true := pus_map _ _ fun p _ => stp_pu p
        simp [eCrd, c, eL_pu, b1, b2]
      exact finE_P (st' := b4 :: rest) (ext := [.lst (ps.map eStp)]) cpu rfl (stP_cons hb4.pu hr) ⟨c, b4, rfl, ok, ⟨fun p m q mq => ((hst p m).2 q mq).2.2.2, fun p m q mq => ((hps p m).tl q mq).2⟩, rfl, hb4.mono (by omega)⟩
    · rintro i l env σ ⟨j, b', ps, hj, hl', rfl, rfl, hp, hps, hb'⟩ Q hn hr'
      have hjm : j < nc := by
        have := congrArg List.length hl'
        simp at this
        omega
      rw [show nc - j = (nc - j - 1) + 1 by omega, List.range'_succ] at hl'
      simp only [List.cons.injEq] at hl'
      obtain ⟨rfl, rfl⟩ := hl'
      have hpu : StP (rest ++ [Cell.lst (ps.map eStp)]) := by
        unfold StP at hr ⊢
        rw [List.all_append, hr]
        simp
        show PV.pus _ = true
        exact pus_map _ _ fun p _ => stp_pu p
      obtain ⟨v, st', e4, p, b4, rfl, p1, p2, p3, p4, p5, p6, rfl, hb4⟩ := stepd_run k _ b' (rest ++ [.lst (ps.map eStp)]) cl nm deeds (by omega) (by omega) (by omega) top ht (by omega) hb' hpu
      obtain ⟨c, b5, c0, c1, hb5, e5⟩ := take_run (k + 3) _ b4 (rest ++ [.lst (ps.map eStp)]) 4 (by omega) (by omega) hb4
      have ic2 : ∀ b3, isCL (b3 :: (rest ++ [.lst (ps.map eStp)])) (.ref (rest.length + 1)) = true := fun b3 => isCL_end (b3 :: rest) (ps.map eStp)
      have ap := fun (env : BR.Env) (v : PV) => app_end (env := env) (st := b5 :: rest) (xs := ps.map eStp) v (by simp; omega)
      simp only [List.cons_append, List.length_cons] at ap
      have fin' : ∀ q : Stp Str, SOk cl nm deeds top q → Q (.ok .nx en (b5 :: (rest ++ [.lst (ps.map eStp ++ [eStp q])]))) := fun q hq => hn _ _ ⟨i + 1, b5, ps ++ [q], by omega, by congr 1, rfl, by simp, by simp [hp], fun p m => by
        rcases List.mem_append.mp m with m | m
        · exact hps p m
        · rw [List.mem_singleton] at m
          subst m
          exact hq, hb5.mono (by omega)⟩
      have sk : SOk cl nm deeds top p := ⟨p1, p2, p3, p4, p5, p6⟩
      have sl : ∀ σ, sliP σ (eStp p) (some 1) none = some (.tup [.str p.deed, eTest p.test, .tup (eL p.res), .str p.tgt]) := fun σ => sliL_tup σ [.str p.src, .str p.deed, eTest p.test, .tup (eL p.res), .str p.tgt] 1 (by simp)
      have ad : ∀ s : Str, bin2 .add (.tup [.str s]) (.tup [.str p.deed, eTest p.test, .tup (eL p.res), .str p.tgt]) = some (eStp { p with src := s }) := fun s => add_tup [.str s] [.str p.deed, eTest p.test, .tup (eL p.res), .str p.tgt] (by simp)
      have hne : 0 < nm.length := by omega
      have i3 : ∀ σ, idxP σ (.lst (eL nm)) (.int 0) = some (.str nm[0]) := fun σ => idx_lst (i := 0) (by simp [eL, List.getElem?_eq_getElem hne])
      by_cases h0 : i = 0
      · subst h0
        by_cases hc : 0 < c
        · simp [en, e4, e5, hc, i3, sl, ad, ic2, ap]
          exact fin' _ ⟨List.getElem_mem hne, p2, p3, p4, p5, p6⟩
        · simp [en, e4, e5, hc, ic2, ap]
          exact fin' _ sk
      · have hi0 : 0 < i := by omega
        by_cases hc : c = 0
        · obtain ⟨qs, q, rfl⟩ : ∃ qs q, ps = qs ++ [q] := by
            rcases List.eq_nil_or_concat ps with rfl | ⟨qs, q, rfl⟩
            · simp at hp
              omega
            · exact ⟨qs, q, by simp⟩
          have il : idxP (b5 :: (rest ++ [Cell.lst ((qs ++ [q]).map eStp)])) (.ref (rest.length + 1)) (.int (-1)) = some (eStp q) := by
            have := idx_last (st := b5 :: rest) (xs := qs.map eStp) (x := eStp q)
            simpa using this
          have hq := (hps q (by simp)).tgt
          clear hpu hr' hn
          generalize (qs ++ [q]).map eStp = M at *
          simp [en, e4, e5, hc, h0, hi0, il, sl, ad, ic2, ap]
          exact fin' _ ⟨hq, p2, p3, p4, p5, p6⟩
        · simp [en, e4, e5, hc, h0, hi0, ic2, ap]
          exact fin' _ sk
end K87
end
section
set_option Elab.async false
set_option linter.all false
set_option maxRecDepth 100000
set_option maxHeartbeats 4000000
/-! W39: the led run. -/
namespace K87
open PySem hiding Env exec
open BR KM
/-- the last moment, or the first one -/
def lastW : Int → List En → Int
  | b, [] => b
  | _, e :: r => lastW e.1 r
theorem walk_snoc {c : Crd Str} {e : En} : ∀ {es : List En} {b : Int} {x0 x y z : Std Str}, walkA c b x0 (wk es) = some x → restA c x (e.1 - lastW b es) = some y → aftA c y e.2.2 = some z → walkA c b x0 (wk (es ++ [e])) = some z
  | [], b, x0, x, y, z, h1, h2, h3 => by
    cases h1
    simp only [lastW] at h2
    simp [wk, walkA, h2, h3]
  | a :: r, b, x0, x, y, z, h1, h2, h3 => by
    simp only [wk, List.map_cons, walkA] at h1
    cases q1 : restA c x0 (a.1 - b) with
    | none => rw [q1] at h1; cases h1
    | some u =>
      rw [q1] at h1
      simp only [] at h1
      cases q2 : aftA c u a.2.2 with
      | none => rw [q2] at h1; cases h1
      | some w =>
        rw [q2] at h1
        have := walk_snoc (es := r) h1 h2 h3
        simp only [wk, List.cons_append, List.map_cons, walkA, q1, q2]
        exact this
theorem row_snoc {c : Crd Str} {e : En} : ∀ {es : List En} {b : Int}, RowOk c b es → lastW b es ≤ e.1 → e.1 ≤ 1000000000 → c.steps[e.2.1]? = some e.2.2 → RowOk c b (es ++ [e])
  | [], b, _, h1, h2, h3 => ⟨h1, h2, h3, trivial⟩
  | a :: r, b, ⟨g1, g2, g3, g4⟩, h1, h2, h3 => ⟨g1, g2, g3, row_snoc g4 h1 h2 h3⟩
theorem lastW_snoc {e : En} : ∀ {es : List En} {b : Int}, lastW b (es ++ [e]) = e.1
  | [], _ => rfl
  | a :: r, _ => lastW_snoc (es := r)
theorem walk_chn {c : Crd Str} : ∀ {es : List En} {b : Int} {x y : Std Str}, walkA c b x (wk es) = some y → chn x.1 (sps es)
  | [], _, _, _, _ => trivial
  | a :: r, b, x, y, h1 => by
    simp only [wk, List.map_cons, walkA] at h1
    cases q1 : restA c x (a.1 - b) with
    | none => rw [q1] at h1; cases h1
    | some u =>
      rw [q1] at h1
      simp only [] at h1
      cases q2 : aftA c u a.2.2 with
      | none => rw [q2] at h1; cases h1
      | some w =>
        rw [q2] at h1
        have ih := walk_chn (es := r) h1
        have hu : u.1 = x.1 := by
          unfold restA at q1
          split at q1
          · cases q1
            rfl
          · cases q1
        have hw : a.2.2.src = u.1 ∧ w.1 = a.2.2.tgt := by
          unfold aftA at q2
          split at q2
          · rename_i hh
            split at q2
            · cases q2
              exact ⟨hh.1, rfl⟩
            · cases q2
          · cases q2
        refine ⟨by rw [hw.1, hu], ?_⟩
        rw [hw.2] at ih
        exact ih
/-- a led run -/
structure Led (c : Crd Str) (es : List En) (x : Std Str) : Prop where
  row : RowOk c 0 es
  wlk : walkA c 0 (std0 c) (wk es) = some x
  std : StdOk c (lastW 0 es) x
  m50 : ∀ e ∈ es, 50 ∣ e.1
  big : ∀ e ∈ es, e.1 ≤ 36000
  lb : 0 ≤ lastW 0 es ∧ lastW 0 es ≤ 36000 ∧ 50 ∣ lastW 0 es
theorem Led.nil {c : Crd Str} (ok : CardOk c) : Led c [] (std0 c) := ⟨trivial, rfl, std0_ok ok, by simp, by simp, by simp [lastW]⟩
theorem Led.snoc {c : Crd Str} (ok : CardOk c) {es : List En} {x y z : Std Str} (h : Led c es x) {g : Int} (g0 : 0 ≤ g) (g5 : 50 ∣ g) (gb : lastW 0 es + g ≤ 36000) (h1 : restA c x g = some y) {i : Nat} {p : Stp Str} (hp : c.steps[i]? = some p) (h2 : aftA c y p = some z) : Led c (es ++ [(lastW 0 es + g, i, p)]) z := by
  have b := h.lb
  have hd : lastW 0 es + g - lastW 0 es = g := by omega
  have r1 : restA c x (lastW 0 es + g - lastW 0 es) = some y := by rw [hd]; exact h1
  have s1 := restA_ok h.std (by omega) r1
  have s2 := aftA_ok s1 (by omega) (ok.spok _ (List.mem_of_getElem? hp)) h2
  refine ⟨row_snoc h.row (by simp only []; omega) (by simp only []; omega) hp, walk_snoc h.wlk r1 h2, by rw [lastW_snoc]; exact s2, ?_, ?_, by rw [lastW_snoc]; simp only []; omega⟩
  · intro e m
    rcases List.mem_append.mp m with m | m
    · exact h.m50 e m
    · rw [List.mem_singleton] at m
      subst m
      simp only []
      omega
  · intro e m
    rcases List.mem_append.mp m with m | m
    · exact h.big e m
    · rw [List.mem_singleton] at m
      subst m
      exact gb
def LedP (u : Nat) (c : Crd Str) (rest : Sto) (v : PV) (st' : Sto) : Prop := ∃ es x b', v = PV.tup [eRow es, ePath es, eStd c.cl x] ∧ Led c es x ∧ es.length ≤ 5 ∧ st' = b' :: rest ∧ Bx (u + 100) b'
theorem eRow_pu (es : List En) : PV.pu (eRow es) = true := by
  unfold eRow
  rw [pu_tup]
  exact pus_map _ _ fun _ _ => rfl
theorem ePath_pu (es : List En) : PV.pu (ePath es) = true := by
  unfold ePath
  rw [pu_tup]
  exact pus_map _ _ fun _ _ => rfl
theorem eStd_pu (cl : List Str) (x : Std Str) : PV.pu (eStd cl x) = true := by
  unfold eStd
  simp
  exact pus_map _ _ fun _ _ => rfl
theorem add_row (es : List En) (e : En) (h : es.length ≤ 100) : bin2 .add (eRow es) (.tup [.tup [mo e.1, .str e.2.2.deed]]) = some (eRow (es ++ [e])) := by
  have := add_tup (es.map eEn) [.tup [mo e.1, .str e.2.2.deed]] (by simp; omega)
  have q : es.map eEn ++ [.tup [mo e.1, .str e.2.2.deed]] = (es ++ [e]).map eEn := by simp [eEn]
  rw [q] at this
  exact this
theorem add_path (es : List En) (e : En) (h : es.length ≤ 100) : bin2 .add (ePath es) (.tup [.int (e.2.1 : Nat)]) = some (ePath (es ++ [e])) := by
  have := add_tup (es.map fun e => PV.int (e.2.1 : Nat)) [.int (e.2.1 : Nat)] (by simp; omega)
  have q : (es.map fun e : En => PV.int (e.2.1 : Nat)) ++ [.int (e.2.1 : Nat)] = (es ++ [e]).map fun e => PV.int (e.2.1 : Nat) := by simp
  rw [q] at this
  exact this
theorem mo12 : mo 36000 = .tup [.int 12, .int 1] := rfl
theorem led_run (k : Nat) (u : Nat) (b : Cell) (rest : Sto) (c : Crd Str) (ok : CardOk c) (many : Nat) (hmany : many ≤ 5) (parts : Nat) (hp : 1 ≤ parts ∧ parts ≤ 5) (hu : u ≤ 5000) (hb : Bx u b) (hr : StP rest) :
    ∃ v st', runF tab (k + 5) f__law_led [.ref 0, eCrd c, .int many, .int parts, .int 12] (b :: rest) = some (.ok v st') ∧ LedP u c rest v st' := by
  rw [run_eq (d := d__law_led) rfl rfl]
  refine finE_of ?_
  have e1 := begin_run (k + 3) c ok (b :: rest)
  simp [d__law_led, b__law_led, q_fors, e1, rngL_nat many (by omega)]
  rw [List.range_eq_range']
  let en (es : List En) (x : Std Str) (g12 : Option PV) (g10 g11 : Option PV) (g9 : Option PV) : BR.Env := [some (.ref 0), some (eCrd c), some (.int many), some (.int parts), some (.int 12), some (eRow es), some (ePath es), some (mo (lastW 0 es)), some (eStd c.cl x), g9, g10, g11, g12, none, none, none, none, none]
  have uq : ∃ q : Int, 3000 = parts * q ∧ 50 ∣ q ∧ 0 < q := by
    rcases (show parts = 1 ∨ parts = 2 ∨ parts = 3 ∨ parts = 4 ∨ parts = 5 by omega) with h | h | h | h | h <;> subst h
    · exact ⟨3000, by omega, by omega, by omega⟩
    · exact ⟨1500, by omega, by omega, by omega⟩
    · exact ⟨1000, by omega, by omega, by omega⟩
    · exact ⟨750, by omega, by omega, by omega⟩
    · exact ⟨600, by omega, by omega, by omega⟩
  obtain ⟨q, hq, q5, q0⟩ := uq
  refine for_Q (fun i : Nat => PV.int i) (fun l env σ => ∃ (j : Nat) (es : List En) (x : Std Str) (b' : Cell), j ≤ many ∧ l = List.range' j (many - j) ∧ env = en es x none none none none ∧ σ = b' :: rest ∧ Led c es x ∧ es.length ≤ j ∧ Bx (u + 3 * j) b') _ rfl ⟨0, [], std0 c, b, by omega, rfl, rfl, rfl, Led.nil ok, by simp, hb⟩ (fun _ _ _ _ => trivial) ?_ ?_
  · rintro env σ ⟨j, es, x, b', hj, hl, rfl, rfl, hL, hes, hb'⟩
    simp [en]
    exact finE_P0 rfl ⟨es, x, b', rfl, hL, by omega, rfl, hb'.mono (by omega)⟩
  · rintro i l env σ ⟨j, es, x, b', hj, hl, rfl, rfl, hL, hes, hb'⟩ Q hn hr'
    have hjm : j < many := by
      have := congrArg List.length hl
      simp at this
      omega
    rw [show many - j = (many - j - 1) + 1 by omega, List.range'_succ] at hl
    simp only [List.cons.injEq] at hl
    obtain ⟨rfl, rfl⟩ := hl
    obtain ⟨f1, b1, f10, f11, hb1, t1⟩ := take_run (k + 3) _ b' rest (2 * parts + 1) (by omega) (by omega) hb'
    obtain ⟨f2, b2, f20, f21, hb2, t2⟩ := take_run (k + 3) _ b1 rest 2 (by omega) (by omega) hb1
    obtain ⟨pk, b3, pk0, pk1, hb3, t3⟩ := take_run (k + 3) _ b2 rest 12 (by omega) (by omega) hb2
    have s1 : smul 2 parts := smS (by omega) (by omega)
    have s2 : smul f1 f2 := smS (by omega) (by omega)
    have hfst : 0 ≤ f1 * f2 := Int.mul_nonneg f10 f20
    have r1 : ∀ σ, rngL (.int (2 * (parts : Int) + 1)) σ = some (.ok ((List.range (2 * parts + 1)).map (fun (i : Nat) => PV.int (i : Int)), none) σ) := fun σ => by
      have := rngL_nat (st := σ) (2 * parts + 1) (by omega)
      rwa [show ((2 * parts + 1 : Nat) : Int) = 2 * (parts : Int) + 1 by omega] at this
    simp [en, t1, t2, t3, s1, s2, r1]
    generalize f1 * f2 = first at *
    let en2 (es : List En) (x : Std Str) (g : Bool) : BR.Env := [some (.ref 0), some (eCrd c), some (.int many), some (.int parts), some (.int 12), some (eRow es), some (ePath es), some (mo (lastW 0 es)), some (eStd c.cl x), some (.int i), some (.int first), some (.int pk), some (.bl g), none, none, none, none, none]
    refine for_Q (fun i : Nat => PV.int i) (fun l env σ => ∃ (es : List En) (x : Std Str) (g : Bool), env = en2 es x g ∧ σ = b3 :: rest ∧ Led c es x ∧ es.length ≤ i + (if g = true then 1 else 0)) (List.range (2 * parts + 1)) rfl ⟨es, x, false, rfl, rfl, hL, by simpa using hes⟩ (fun _ _ _ _ => trivial) ?_ ?_
    · rintro env σ ⟨es, x, g, rfl, rfl, hL, hes⟩
      cases g with
      | false =>
        simp [en2]
        exact hr' _ _ _ (finE_P0 rfl ⟨es, x, b3, rfl, hL, by simp at hes; omega, rfl, hb3.mono (by omega)⟩)
      | true =>
        simp [en2]
        exact hn _ _ ⟨i + 1, es, x, b3, by omega, by congr 1, rfl, rfl, hL, by simpa using hes, hb3.mono (by omega)⟩
    · rintro kk l env σ ⟨es, x, g, rfl, rfl, hL, hes⟩ Q' hn2 hr2
      have hpp : (0 : Int) < 2 * (parts : Int) + 1 := by omega
      have n0 : 0 ≤ (first + (kk : Int)) % (2 * (parts : Int) + 1) := Int.emod_nonneg _ (by omega)
      have n1 : (first + (kk : Int)) % (2 * (parts : Int) + 1) < 2 * (parts : Int) + 1 := Int.emod_lt_of_pos _ hpp
      generalize hN : (first + (kk : Int)) % (2 * (parts : Int) + 1) = N at *
      have lw := low_run (k + 3) N parts (N * q) (b3 :: rest) (by omega) (by omega) (by rw [Int.mul_assoc, Int.mul_comm q, ← hq])
      have g0 : 0 ≤ N * q := Int.mul_nonneg n0 (by omega)
      have g5 : 50 ∣ N * q := Int.dvd_trans q5 (Int.dvd_mul_left _ _)
      have gB : N * q ≤ 33000 := by
        have h1 : N * q ≤ (2 * (parts : Int)) * q := Int.mul_le_mul_of_nonneg_right (by omega) (by omega)
        have h2 : (2 * (parts : Int)) * q = 6000 := by rw [Int.mul_assoc, ← hq]; rfl
        omega
      generalize N * q = gp at *
      cases g with
      | true =>
        simp [en2, hN, s1, hpp, lw]
        exact hn2 _ _ ⟨es, x, true, rfl, rfl, hL, hes⟩
      | false =>
        simp at hes
        have lb := hL.lb
        have zn : Z (lastW 0 es) := by unfold Z; omega
        have pl := plus_run (k + 2) (lastW 0 es) gp (b3 :: rest) zn (by unfold Z; omega)
        have ls := less_run (k + 3) 36000 (lastW 0 es + gp) (b3 :: rest) (by unfold Z; omega) (by unfold Z; omega)
        rw [mo12] at ls
        have skip : Q' (.ok .nx (en2 es x false) (b3 :: rest)) := hn2 _ _ ⟨es, x, false, rfl, rfl, hL, by simpa using hes⟩
        by_cases hlim : 36000 < lastW 0 es + gp
        · simp [en2, hN, s1, hpp, lw, pl, ls, hlim]
          exact skip
        · have rs := rested_run (k + 1) c ok x hL.std.1 (fun s _ => by have := hL.std.2 s; unfold Z; omega) gp (by unfold Z; omega) (b3 :: rest)
          cases hra : restA c x gp with
          | none =>
            rw [hra] at rs
            simp [en2, hN, s1, hpp, lw, pl, ls, hlim, rs]
            exact skip
          | some y =>
            rw [hra] at rs
            have hy : y.1 ∈ c.sts.map (·.1) := by
              have : y.1 = x.1 := by
                unfold restA at hra
                split at hra
                · cases hra
                  rfl
                · cases hra
              rw [this]
              exact hL.std.1
            have lt := let_run k c ok y hy (b3 :: rest)
            by_cases hl0 : (letA c y).length = 0
            · have : letA c y = [] := List.eq_nil_of_length_eq_zero hl0
              rw [this] at lt
              simp at lt
              simp [en2, hN, s1, hpp, lw, pl, ls, hlim, rs, lt]
              exact skip
            · have hl1 : (0 : Int) < (letA c y).length := by omega
              have hl1' : 0 < (letA c y).length := by omega
              have ix0 : 0 ≤ pk % ((letA c y).length : Int) := Int.emod_nonneg _ (by omega)
              have ix1 : pk % ((letA c y).length : Int) < (letA c y).length := Int.emod_lt_of_pos _ hl1
              obtain ⟨ii, hii⟩ := Int.eq_ofNat_of_zero_le ix0
              have hiil : ii < (letA c y).length := by omega
              have hmem : (letA c y)[ii] ∈ letA c y := List.getElem_mem hiil
              have hix : ∀ σ, idxP σ (.lst ((letA c y).map fun (i : Nat) => PV.int i)) (.int (pk % ((letA c y).length : Int))) = some (.int ((letA c y)[ii] : Nat)) := fun σ => by
                rw [hii]
                exact idx_lst (by simp [List.getElem?_eq_getElem hiil])
              generalize (letA c y)[ii] = si at hmem hix
              unfold letA at hmem
              rw [List.mem_filter] at hmem
              obtain ⟨h1, h2⟩ := hmem
              have hsi := List.mem_range.mp h1
              have hps : c.steps[si]? = some c.steps[si] := List.getElem?_eq_getElem hsi
              rw [hps] at h2
              simp only [Option.bind_some] at h2
              obtain ⟨z, hz⟩ := Option.isSome_iff_exists.mp h2
              have af := after_run (k + 1) c ok y hy c.steps[si] (ok.spok _ (List.getElem_mem hsi)) (b3 :: rest)
              rw [hz] at af
              have hL2 := hL.snoc ok g0 g5 (by omega) hra hps hz
              have a1 := add_row es (lastW 0 es + gp, si, c.steps[si]) (by omega)
              have a2 := add_path es (lastW 0 es + gp, si, c.steps[si]) (by omega)
              have hq' : Q' (.ok .nx (en2 (es ++ [(lastW 0 es + gp, si, c.steps[si])]) z true) (b3 :: rest)) := hn2 _ _ ⟨_, z, true, rfl, rfl, hL2, by simp; omega⟩
              simp only [] at a1 a2
              simp only [en2, lastW_snoc] at hq'
              simp [en2, hN, s1, hpp, lw, pl, ls, hlim, rs, lt, hl1', hix, idx_tup (steps_at hps), a1, a2, af]
              exact hq'
end K87
end
section
set_option Elab.async false
set_option linter.all false
set_option maxRecDepth 100000
set_option maxHeartbeats 4000000
/-! W40: the scaled card. -/
namespace K87
open PySem hiding Env exec
open BR KM
def scE (n : Int) (e : Edge) : Edge := (e.1 * n, e.2)
def scS (n : Int) (s : Span) : Span := (scE n s.1, s.2.map (scE n))
def scY (n : Int) (l : List (Str × Edge)) : List (Str × Edge) := l.map fun p => (p.1, scE n p.2)
def scT (n : Int) (l : List (Str × Span)) : List (Str × Span) := l.map fun p => (p.1, scS n p.2)
def scP (n : Int) (p : Stp Str) : Stp Str := { p with test := scT n p.test }
def scC (n : Int) (c : Crd Str) : Crd Str := { c with sts := c.sts.map fun p => (p.1, scY n p.2), steps := c.steps.map (scP n) }
def scR (n : Int) (es : List En) : List En := es.map fun e => (e.1 * n, e.2.1, scP n e.2.2)
theorem sedge_run (k : Nat) (n : Int) (hn : 1 ≤ n ∧ n ≤ 100) (o : Option Edge) (ho : LeO o) (st : Sto) : runF tab (k + 1) f__law_scaled_edge [eC o, .int n] st = some (.ok (eC (o.map (scE n))) st) := by
  rw [run_eq (d := d__law_scaled_edge) rfl rfl]
  cases o with
  | none => simp [d__law_scaled_edge, b__law_scaled_edge]
  | some e =>
    have m : smul e.1 n := by have := ho e rfl; unfold Le at this; exact smS (by omega) (by omega)
    simp [d__law_scaled_edge, b__law_scaled_edge, m]
    rfl
theorem app_mid {env : BR.Env} {st : Sto} {a : Cell} {xs : List PV} {junk : Sto} (v : PV) (h : xs.length < 10000) : appP env (st ++ a :: .lst xs :: junk) (.ref (st.length + 1)) v = some (.ok .nx env (st ++ a :: .lst (xs ++ [v]) :: junk)) := by
  have e : (st ++ a :: .lst xs :: junk)[st.length + 1]? = some (.lst xs) := by
    have := app_at st a (.lst xs :: junk) 0
    simpa using this
  unfold appP
  simp only [e]
  rw [if_pos (by rw [sizeLine_eq]; omega)]
  have := set_at st a (.lst (xs ++ [v])) (.lst xs :: junk) 0
  simp only [Nat.add_zero, List.set_cons_zero] at this
  rw [this]
theorem isCL_mid (st : Sto) (a : Cell) (xs : List PV) (junk : Sto) : isCL (st ++ a :: .lst xs :: junk) (.ref (st.length + 1)) = true := by
  have e : (st ++ a :: .lst xs :: junk)[st.length + 1]? = some (.lst xs) := by
    have := app_at st a (.lst xs :: junk) 0
    simpa using this
  unfold isCL
  simp only [e]
theorem scaled_run (k : Nat) (n : Int) (hn : 1 ≤ n ∧ n ≤ 100) (c : Crd Str) (ok : CardOk c) (st : Sto) : runF tab (k + 2) f__law_scaled [eCrd c, .int n] st = some (.ok (eCrd (scC n c)) st) := by
  rw [run_eq (d := d__law_scaled) rfl rfl]
  refine finX_of ?_
  simp [d__law_scaled, b__law_scaled, q_fors]
  let en (a b : Option PV) : BR.Env := [some (eCrd c), some (.int n), some (.ref st.length), none, none, a, none, none, none, none]
  refine for_Q eSta (fun l env σ => ∃ dn, env = en none none ∧ σ = st ++ [.lst ((dn.map fun p => (p.1, scY n p.2)).map eSta)] ∧ c.sts = dn ++ l) c.sts rfl ⟨[], rfl, rfl, rfl⟩ (fun _ _ _ _ => trivial) ?_ ?_
  · rintro env σ ⟨dn, rfl, rfl, hd⟩
    rw [List.append_nil] at hd
    subst hd
    simp only [en, ← List.map_map]
    generalize hA : (c.sts.map fun p => (p.1, scY n p.2)) = sts' at *
    simp
    let en2 : BR.Env := [some (eCrd c), some (.int n), some (.ref st.length), none, none, some (.ref (st.length + 1)), none, none, none, none]
    refine for_Q eStp (fun l env σ => ∃ (dn : List (Stp Str)) (junk : Sto), env = en2 ∧ σ = st ++ .lst (sts'.map eSta) :: .lst ((dn.map (scP n)).map eStp) :: junk ∧ c.steps = dn ++ l) c.steps rfl ⟨[], [], rfl, rfl, rfl⟩ (fun _ _ _ _ => trivial) ?_ ?_
    · rintro env σ ⟨dn, junk, rfl, rfl, hd⟩
      rw [List.append_nil] at hd
      subst hd
      have g1 : (st ++ Cell.lst (sts'.map eSta) :: .lst ((c.steps.map (scP n)).map eStp) :: junk)[st.length]? = some (.lst (sts'.map eSta)) := by simp
      have g2 : (st ++ Cell.lst (sts'.map eSta) :: .lst ((c.steps.map (scP n)).map eStp) :: junk)[st.length + 1]? = some (.lst ((c.steps.map (scP n)).map eStp)) := by
        have := app_at st (Cell.lst (sts'.map eSta)) (.lst ((c.steps.map (scP n)).map eStp) :: junk) 0
        simpa using this
      have hc : PV.tup [.str c.name, .tpd (eL c.cl), .tup (sts'.map eSta), .tup ((c.steps.map (scP n)).map eStp), .tup (eL c.also)] = eCrd (scC n c) := by
        unfold eCrd scC
        simp only [hA]
      generalize (c.steps.map (scP n)).map eStp = M at *
      simp [en2, tuple_ref g1, tuple_ref g2, hc]
      refine finX_E ?_
      have a1 : PV.pus ((scC n c).sts.map eSta) = true := pus_map _ _ fun p _ => sta_pu p
      have a2 : PV.pus ((scC n c).steps.map eStp) = true := pus_map _ _ fun p _ => stp_pu p
      unfold eCrd
      simp [eL_pu, a1, a2]
    · rintro p l env σ ⟨dn, junk, rfl, rfl, hd⟩ Q hn' hr
      have mp : p ∈ c.steps := by rw [hd]; simp
      have so := ok.spok p mp
      have hdl : dn.length ≤ 50 := by
        have := ok.sp400
        rw [hd] at this
        simp at this
        omega
      generalize hM : (dn.map (scP n)).map eStp = M at *
      have hMl : M.length ≤ 50 := by rw [← hM]; simp; omega
      simp [en2]
      have hst : st ++ Cell.lst (sts'.map eSta) :: Cell.lst M :: (junk ++ [Cell.lst []]) = (st ++ Cell.lst (sts'.map eSta) :: Cell.lst M :: junk) ++ [Cell.lst []] := by simp
      have hlen : st.length + (junk.length + 1 + 1) = (st ++ Cell.lst (sts'.map eSta) :: Cell.lst M :: junk).length := by simp
      rw [hst, hlen]
      generalize hB : st ++ Cell.lst (sts'.map eSta) :: Cell.lst M :: junk = B at *
      let en3 : BR.Env := [some (eCrd c), some (.int n), some (.ref st.length), none, none, some (.ref (st.length + 1)), some (eStp p), some (.ref B.length), none, none]
      refine for_Q (ePr eSp) (fun l env σ => ∃ (dt : List (Str × Span)), env = en3 ∧ σ = B ++ [.lst ((scT n dt).map (ePr eSp))] ∧ p.test = dt ++ l) p.test rfl ⟨[], rfl, rfl, rfl⟩ (fun _ _ _ _ => trivial) ?_ ?_
      · rintro env σ ⟨dt, rfl, rfl, hdt⟩
        rw [List.append_nil] at hdt
        subst hdt
        have g1 : (B ++ [Cell.lst ((scT n p.test).map (ePr eSp))])[B.length]? = some (.lst ((scT n p.test).map (ePr eSp))) := by simp
        have ht := tuple_ref g1
        have hs2 : B ++ [Cell.lst ((scT n p.test).map (ePr eSp))] = st ++ Cell.lst (sts'.map eSta) :: Cell.lst M :: (junk ++ [Cell.lst ((scT n p.test).map (ePr eSp))]) := by rw [← hB]; simp
        have ap := fun (env : BR.Env) (v : PV) => app_mid (env := env) (st := st) (a := .lst (sts'.map eSta)) (xs := M) (junk := junk ++ [Cell.lst ((scT n p.test).map (ePr eSp))]) v (by omega)
        have ic := isCL_mid st (.lst (sts'.map eSta)) M (junk ++ [Cell.lst ((scT n p.test).map (ePr eSp))])
        rw [← hs2] at ap ic
        have he : PV.tup [.str p.src, .str p.deed, .tup ((scT n p.test).map (ePr eSp)), .tup (eL p.res), .str p.tgt] = eStp (scP n p) := rfl
        have hq := hn' en2 _ ⟨dn ++ [p], junk ++ [Cell.lst ((scT n p.test).map (ePr eSp))], rfl, rfl, by simp [hd]⟩
        have hM2 : ((dn ++ [p]).map (scP n)).map eStp = M ++ [eStp (scP n p)] := by rw [← hM]; simp
        rw [hM2] at hq
        generalize (scT n p.test).map (ePr eSp) = TT at *
        simp [en3, ic, ht, he, ap]
        exact hq
      · rintro ⟨s, lo, hi⟩ l' env σ ⟨dt, rfl, rfl, hdt⟩ Q' hn2 hr2
        have mq : (s, lo, hi) ∈ p.test := by rw [hdt]; simp
        obtain ⟨⟨l1, l2⟩, -⟩ := so.test.sp _ mq
        have e1 := fun σ => sedge_run k n hn (some lo) (fun e h => by cases h; exact l1) σ
        have e2 := fun σ => sedge_run k n hn hi l2 σ
        simp only [eC_some, Option.map_some] at e1
        have hdl : dt.length ≤ 6 := by
          have := so.test.len
          rw [hdt] at this
          simp at this
          omega
        have ap := fun (env : BR.Env) (v : PV) => app_end (env := env) (st := B) (xs := (scT n dt).map (ePr eSp)) v (by simp [scT]; omega)
        have hq := hn2 en3 _ ⟨dt ++ [(s, lo, hi)], rfl, rfl, by simp [hdt]⟩
        have ht2 : (scT n (dt ++ [(s, lo, hi)])).map (ePr eSp) = (scT n dt).map (ePr eSp) ++ [.tup [.str s, .tup [eE (scE n lo), eC (hi.map (scE n))]]] := by
          simp [scT, ePr]
          rfl
        rw [ht2] at hq
        generalize (scT n dt).map (ePr eSp) = TT at *
        simp [en3, e1, e2, ap]
        exact hq
  · rintro ⟨s, stay⟩ l env σ ⟨dn, rfl, rfl, hd⟩ Q hn' hr
    have mp : (s, stay) ∈ c.sts := by rw [hd]; simp
    have so := ok.stok _ mp
    have hdl : dn.length ≤ 64 := by
      have := ok.st64
      rw [hd] at this
      simp at this
      omega
    have ap := fun (env : BR.Env) (v : PV) => app_end (env := env) (st := st) (xs := (dn.map fun p => (p.1, scY n p.2)).map eSta) v (by simp; omega)
    have hq := hn' (en none none) _ ⟨dn ++ [(s, stay)], rfl, rfl, by simp [hd]⟩
    have h2 : ((dn ++ [(s, stay)]).map fun p => (p.1, scY n p.2)).map eSta = (dn.map fun p => (p.1, scY n p.2)).map eSta ++ [.tup [.str s, .tup (stay.map fun p => ePr eE (p.1, scE n p.2))]] := by
      simp [eSta, eStay, scY]
    rw [h2] at hq
    generalize (dn.map fun p => (p.1, scY n p.2)).map eSta = TT at *
    simp [en, x_lc]
    rw [lcL_map (ePr eE) (fun p => ePr eE (p.1, scE n p.2)) trivial stay (fun p m => by
      have e1 := fun σ => sedge_run k n hn (some p.2) (fun e h => by cases h; exact (so.ed p m).1) σ
      simp only [eC_some, Option.map_some] at e1
      simp [e1]
      rfl)]
    simp [ap]
    exact hq
end K87
end
section
set_option Elab.async false
set_option linter.all false
set_option maxRecDepth 100000
set_option maxHeartbeats 4000000
/-! W41: all limits and all moments are multiplied. -/
namespace K87
open PySem hiding Env exec
open BR KM
section
variable {n : Int}
theorem up_sc (hn : 1 ≤ n) (e : Edge) (z : Int) : up (scE n e) (z * n) = up e z := by
  rw [Bool.eq_iff_iff, up_iff, up_iff]
  unfold scE
  simp only []
  have e1 : e.1 * n * 3000 = e.1 * 3000 * n := by rw [Int.mul_assoc, Int.mul_comm n, ← Int.mul_assoc]
  rw [e1]
  constructor
  · rintro (h | ⟨h, r⟩)
    · exact .inl (Int.lt_of_mul_lt_mul_right h (by omega))
    · exact .inr ⟨Int.eq_of_mul_eq_mul_right (by omega) h, r⟩
  · rintro (h | ⟨h, r⟩)
    · exact .inl (Int.mul_lt_mul_of_pos_right h (by omega))
    · exact .inr ⟨by rw [h], r⟩
theorem lo_sc (hn : 1 ≤ n) (e : Edge) (z : Int) : lo (scE n e) (z * n) = lo e z := by
  rw [Bool.eq_iff_iff, lo_iff, lo_iff]
  unfold scE
  simp only []
  have e1 : e.1 * n * 3000 = e.1 * 3000 * n := by rw [Int.mul_assoc, Int.mul_comm n, ← Int.mul_assoc]
  rw [e1]
  constructor
  · rintro (h | ⟨h, r⟩)
    · exact .inl (Int.lt_of_mul_lt_mul_right h (by omega))
    · exact .inr ⟨Int.eq_of_mul_eq_mul_right (by omega) h, r⟩
  · rintro (h | ⟨h, r⟩)
    · exact .inl (Int.mul_lt_mul_of_pos_right h (by omega))
    · exact .inr ⟨by rw [h], r⟩
theorem inS_sc (hn : 1 ≤ n) (s : Span) (z : Int) : inS (scS n s) (z * n) = inS s z := by
  obtain ⟨l, h⟩ := s
  unfold inS scS
  simp only [lo_sc hn]
  cases h with
  | none => rfl
  | some e =>
    simp only [Option.map_some]
    rw [up_sc hn]
theorem stOf_sc (l : List (Str × List (Str × Edge))) (s : Str) : stOf (l.map fun p => (p.1, scY n p.2)) s = scY n (stOf l s) := by
  induction l with
  | nil => rfl
  | cons p l ih =>
    simp only [List.map_cons, stOf]
    split
    · rfl
    · exact ih
theorem stay_sc (hn : 1 ≤ n) (c : Crd Str) (s : Str) (rd : Str → Int) : stayOk (scC n c) s (fun t => rd t * n) = stayOk c s rd := by
  unfold stayOk
  have : (scC n c).sts = c.sts.map fun p => (p.1, scY n p.2) := rfl
  rw [this, stOf_sc]
  unfold scY
  rw [List.all_map]
  congr 1
  funext p
  exact up_sc hn p.2 (rd p.1)
theorem test_sc (hn : 1 ≤ n) (t : List (Str × Span)) (rd : Str → Int) : testOk (scT n t) (fun t => rd t * n) = testOk t rd := by
  unfold testOk scT
  rw [List.all_map]
  congr 1
  funext p
  exact inS_sc hn p.2 (rd p.1)
def scX (n : Int) (x : Std Str) : Std Str := (x.1, fun s => x.2 s * n)
theorem rest_sc (hn : 1 ≤ n) (c : Crd Str) (x : Std Str) (g : Int) : restA (scC n c) (scX n x) (g * n) = (restA c x g).map (scX n) := by
  unfold restA scX
  simp only []
  have e : (fun s => x.2 s * n + g * n) = fun s => (x.2 s + g) * n := by
    funext s
    rw [Int.add_mul]
  rw [e, stay_sc hn c x.1 (fun s => x.2 s + g)]
  cases stayOk c x.1 (fun s => x.2 s + g) <;> rfl
theorem aft_sc (hn : 1 ≤ n) (c : Crd Str) (x : Std Str) (p : Stp Str) : aftA (scC n c) (scX n x) (scP n p) = (aftA c x p).map (scX n) := by
  unfold aftA scX
  have e : zer p.res (fun s => x.2 s * n) = fun s => zer p.res x.2 s * n := by
    funext s
    unfold zer
    split
    · omega
    · rfl
  show (if p.src = x.1 ∧ testOk (scT n p.test) (fun s => x.2 s * n) = true then (if stayOk (scC n c) p.tgt (zer p.res fun s => x.2 s * n) = true then some (p.tgt, zer p.res fun s => x.2 s * n) else none) else none) = _
  simp only [test_sc hn, e, stay_sc hn]
  split
  · split <;> rfl
  · rfl
theorem walk_sc (hn : 1 ≤ n) (c : Crd Str) : ∀ (es : List En) (b : Int) (x : Std Str), walkA (scC n c) (b * n) (scX n x) (wk (scR n es)) = (walkA c b x (wk es)).map (scX n)
  | [], _, _ => rfl
  | e :: r, b, x => by
    simp only [scR, wk, List.map_cons, walkA]
    rw [show e.1 * n - b * n = (e.1 - b) * n by rw [Int.sub_mul], rest_sc hn]
    cases restA c x (e.1 - b) with
    | none => rfl
    | some y =>
      simp only [Option.map_some]
      rw [aft_sc hn]
      cases aftA c y e.2.2 with
      | none => rfl
      | some z =>
        simp only [Option.map_some]
        exact walk_sc hn c r e.1 z
theorem row_sc (hn : 1 ≤ n ∧ n ≤ 33) (c : Crd Str) : ∀ (es : List En) (b : Int), 0 ≤ b → RowOk c b es → (∀ e ∈ es, e.1 ≤ 36000) → RowOk (scC n c) (b * n) (scR n es)
  | [], _, _, _, _ => trivial
  | e :: r, b, hb, ⟨h1, h2, h3, h4⟩, hM => by
    have hm := hM e (by simp)
    have k1 : b * n ≤ e.1 * n := Int.mul_le_mul_of_nonneg_right h1 (by omega)
    have k2 : e.1 * n ≤ 36000 * 33 := Int.mul_le_mul hm hn.2 (by omega) (by omega)
    refine ⟨k1, by simp only []; omega, ?_, row_sc hn c r e.1 (by omega) h4 fun e m => hM e (by simp [m])⟩
    show (c.steps.map (scP n))[e.2.1]? = _
    rw [List.getElem?_map, h3]
    rfl
theorem fst_sc (c : Crd Str) : fst0 (scC n c) = fst0 c := by
  unfold fst0 scC
  simp [List.map_map]
  rfl
theorem std_sc (c : Crd Str) : std0 (scC n c) = scX n (std0 c) := by
  unfold std0 scX
  rw [fst_sc]
  simp
theorem mul_b {a n t : Int} (h0 : 0 ≤ a) (ha : a ≤ t) (hn : 1 ≤ n ∧ n ≤ 33) (ht : t ≤ 3) : 0 ≤ a * n ∧ a * n ≤ 99 := by
  have k1 : 0 ≤ a * n := Int.mul_nonneg h0 (by omega)
  have k2 : a * n ≤ 3 * 33 := Int.mul_le_mul (by omega) hn.2 (by omega) (by omega)
  omega
theorem le_sc {e : Edge} (h : Le e) (h0 : 0 ≤ e.1) {t : Int} (ht : e.1 ≤ t) (t3 : t ≤ 3) (hn : 1 ≤ n ∧ n ≤ 33) : Le (scE n e) ∧ 0 ≤ (scE n e).1 ∧ (scE n e).1 ≤ 99 := by
  have := mul_b h0 ht hn t3
  unfold Le at h ⊢
  unfold scE
  simp only []
  omega
/-- the scaled card stands as it should -/
theorem card_sc {c : Crd Str} (ok : CardOk c) {t : Int} (t3 : t ≤ 3) (lim : LimC c t) (hn : 1 ≤ n ∧ n ≤ 33) : CardOk (scC n c) ∧ LimC (scC n c) 99 := by
  have nmx : (scC n c).sts.map (·.1) = c.sts.map (·.1) := by
    unfold scC
    simp [List.map_map]
  have hst : ∀ p ∈ c.sts, ∀ q ∈ p.2, Le (scE n q.2) ∧ 0 ≤ (scE n q.2).1 ∧ (scE n q.2).1 ≤ 99 ∧ scE n q.2 ≠ (0, 0) := fun p m q mq => by
    obtain ⟨h1, h2, h3⟩ := (ok.stok p m).ed q mq
    obtain ⟨k1, k2, k3⟩ := le_sc h1 h2 (lim.st p m q mq) t3 hn
    refine ⟨k1, k2, k3, ?_⟩
    intro e
    apply h3
    have e1 := congrArg Prod.fst e
    have e2 := congrArg Prod.snd e
    unfold scE at e1 e2
    simp only [] at e1 e2
    rcases Int.mul_eq_zero.mp e1 with h | h
    · exact Prod.ext h e2
    · omega
  have hsp : ∀ p ∈ c.steps, ∀ q ∈ p.test, Lw (scS n q.2) ∧ limS (scS n q.2) 99 := fun p m q mq => by
    obtain ⟨⟨a1, a2⟩, a3, a4⟩ := ((ok.spok p m).test.sp q mq)
    obtain ⟨l1, l2⟩ := lim.sp p m q mq
    obtain ⟨k1, k2, k3⟩ := le_sc a1 a3 l1 t3 hn
    have hh : ∀ e, q.2.2 = some e → Le (scE n e) ∧ 0 ≤ (scE n e).1 ∧ (scE n e).1 ≤ 99 := fun e he => le_sc (a2 e he) (by have := a4 e he; omega) (l2 e he) t3 hn
    refine ⟨⟨⟨k1, fun e he => ?_⟩, k2, fun e he => ?_⟩, k3, fun e he => ?_⟩
    · obtain ⟨u, hu, rfl⟩ := Option.map_eq_some_iff.mp he
      exact (hh u hu).1
    · obtain ⟨u, hu, rfl⟩ := Option.map_eq_some_iff.mp he
      unfold scS scE
      simp only []
      rcases a4 u hu with h | ⟨h1, h2, h3⟩
      · exact .inl (Int.mul_lt_mul_of_pos_right h (by omega))
      · exact .inr ⟨by rw [h1], h2, h3⟩
    · obtain ⟨u, hu, rfl⟩ := Option.map_eq_some_iff.mp he
      exact (hh u hu).2.2
  have hfs : ∀ l : List (Str × Edge), (scY n l).map (·.1) = l.map (·.1) := fun l => by
    unfold scY
    rw [List.map_map]
    rfl
  have hft : ∀ l : List (Str × Span), (scT n l).map (·.1) = l.map (·.1) := fun l => by
    unfold scT
    rw [List.map_map]
    rfl
  constructor
  · exact {
      name := ok.name
      clnd := ok.clnd
      clnm := ok.clnm
      cl0 := ok.cl0
      cl6 := ok.cl6
      st0 := by
        have := ok.st0
        unfold scC
        simpa using this
      st64 := by
        have := ok.st64
        unfold scC
        simpa using this
      stnd := by rw [nmx]; exact ok.stnd
      stnm := fun p m => by
        obtain ⟨q, mq, rfl⟩ := List.mem_map.mp m
        exact ok.stnm q mq
      stok := fun p m => by
        obtain ⟨q, mq, rfl⟩ := List.mem_map.mp m
        have so := ok.stok q mq
        refine ⟨by rw [hfs]; exact so.nd, fun r mr => ?_, by simp only [scY, List.length_map]; exact so.len, fun r mr => ?_⟩
        · obtain ⟨w, mw, rfl⟩ := List.mem_map.mp mr
          exact so.mem w mw
        · obtain ⟨w, mw, rfl⟩ := List.mem_map.mp mr
          have := hst q mq w mw
          exact ⟨this.1, this.2.1, this.2.2.2⟩
      sp400 := by
        have := ok.sp400
        unfold scC
        simpa using this
      spok := fun p m => by
        obtain ⟨q, mq, rfl⟩ := List.mem_map.mp m
        have so := ok.spok q mq
        refine ⟨by rw [nmx]; exact so.src, by rw [nmx]; exact so.tgt, so.deed, ⟨by simp only [scP]; rw [hft]; exact so.test.nd, fun r mr => ?_, by simp only [scP, scT, List.length_map]; exact so.test.len, fun r mr => ?_⟩, so.rnd, so.rmem, so.rlen⟩
        · obtain ⟨w, mw, rfl⟩ := List.mem_map.mp mr
          exact so.test.mem w mw
        · obtain ⟨w, mw, rfl⟩ := List.mem_map.mp mr
          exact (hsp q mq w mw).1
      alnd := ok.alnd
      alsm := ok.alsm
      allen := ok.allen }
  · constructor
    · intro p m q mq
      obtain ⟨r, mr, rfl⟩ := List.mem_map.mp m
      obtain ⟨w, mw, rfl⟩ := List.mem_map.mp mq
      exact (hst r mr w mw).2.2.1
    · intro p m q mq
      obtain ⟨r, mr, rfl⟩ := List.mem_map.mp m
      obtain ⟨w, mw, rfl⟩ := List.mem_map.mp mq
      exact (hsp r mr w mw).2
end
/-- the conditions' limits -/
theorem cds_bd {c : Crd Str} (ok : CardOk c) (lim : LimC c 99) (sp : List (Stp Str)) : ∀ (es : List En) (n : Nat) (s : Str), PathOk c es → s ∈ c.sts.map (·.1) → ∀ q ∈ cds c sp n s (sps es), -99 ≤ q.e.1 ∧ q.e.1 ≤ 99 := by
  have hS : ∀ (n : Nat) (s : Str), s ∈ c.sts.map (·.1) → ∀ q ∈ sCo sp n (stOf c.sts s), -99 ≤ q.e.1 ∧ q.e.1 ≤ 99 := fun n s hs q m => by
    obtain ⟨p, mp, rfl⟩ := List.mem_map.mp m
    have h := List.mem_of_getElem? (stOf_at hs)
    have a := lim.st _ h p mp
    have b := ((ok.stok _ h).ed p mp).2.1
    simp only []
    omega
  intro es
  induction es with
  | nil => exact fun n s _ hs q m => hS n s hs q m
  | cons e es ih =>
    intro n s hp hs q m
    have he := List.mem_of_getElem? (hp e (by simp))
    have so := ok.spok _ he
    simp only [sps, List.map_cons, cds, List.mem_append, List.mem_cons] at m
    rcases m with ((rfl | m) | m) | m
    · simp
    · unfold tCo at m
      obtain ⟨p, mp, m⟩ := List.mem_flatMap.mp m
      obtain ⟨l1, l2⟩ := lim.sp _ he p mp
      obtain ⟨a1, a3, a4⟩ := so.test.sp p mp
      rcases List.mem_cons.mp m with rfl | m
      · simp only []
        omega
      · cases hq : p.2.2 with
        | none => rw [hq] at m; cases m
        | some u =>
          rw [hq] at m
          simp only [List.mem_singleton] at m
          subst m
          have := l2 u hq
          have := a4 u hq
          simp only []
          omega
    · exact hS n s hs q m
    · exact ih (n + 1) e.2.2.tgt (fun e m => hp e (by simp [m])) so.tgt q m
/-- the scaled led run is a run as the law asks it -/
theorem Led.runD {c : Crd Str} (ok : CardOk c) {t : Int} (t3 : t ≤ 3) (lim : LimC c t) {n : Int} (hn : 1 ≤ n ∧ n ≤ 33) {es : List En} {x : Std Str} (h : Led c es x) (hl : es.length ≤ 5) (hne : es ≠ []) : RunD (scC n c) (scR n es) := by
  obtain ⟨ok2, lim2⟩ := card_sc ok t3 lim hn
  have row := row_sc hn c es 0 (by omega) h.row h.big
  rw [Int.zero_mul] at row
  have w := walk_sc hn.1 c es 0 (std0 c)
  rw [h.wlk, Int.zero_mul, ← std_sc] at w
  simp only [Option.map_some] at w
  have ch := walk_chn w
  have ch2 : chn (fst0 (scC n c)) (sps (scR n es)) := ch
  have nn : ∀ e ∈ es, 0 ≤ e.1 := fun e m => (RowOk.bd h.row (by omega) e m).1
  refine ⟨row, by simp [scR]; exact hl, ?_, ch2, ?_, ?_, ?_, ?_⟩
  · intro e
    have := congrArg List.length e
    simp [scR] at this
    exact hne this
  · rw [← let_iff ok2 row ch2, endA_iff ok2, w]
    rfl
  · intro e m
    obtain ⟨a, ma, rfl⟩ := List.mem_map.mp m
    exact Int.dvd_trans (h.m50 a ma) (Int.dvd_mul_right _ _)
  · intro e m
    obtain ⟨a, ma, rfl⟩ := List.mem_map.mp m
    have k2 : a.1 * n ≤ 36000 * 33 := Int.mul_le_mul (h.big a ma) hn.2 (by omega) (by omega)
    simp only []
    omega
  · exact cds_bd ok2 lim2 _ (scR n es) 0 _ row.path (std0_ok ok2).1
end K87
end
section
set_option Elab.async false
set_option linter.all false
set_option maxRecDepth 100000
set_option maxHeartbeats 4000000
/-! W42: the law. -/
namespace K87
open PySem hiding Env exec
open BR KM
theorem fin_ref {st0 st : Sto} {n : Nat} {env : BR.Env} : fin st0 (some (.ok (.rt (.ref n)) env st)) = some (.ok (.ref n) st) := by
  simp only [fin]
  rw [if_neg]
  intro h
  have := h.1
  cases this
theorem box_run (k : Nat) (ns : List Int) (seed : Int) (hs : 0 ≤ seed ∧ seed ≤ 3000000000) : ∃ b, runF tab (k + 1) f__law_box [.arg (ns.map .int), .int seed] [] = some (.ok (.ref 0) [b]) ∧ Bx 0 b := by
  rw [run_eq (d := d__law_box) rfl rfl]
  have e1 : sliP [] (.arg (ns.map .int)) none (some 63) = some (.lst ((ns.take 63).map .int)) := by
    show some (PV.lst (cutP (ns.map .int) none (some 63))) = _
    unfold cutP
    rw [HT.sIx_none, show (some (63 : Int)) = some ((63 : Nat) : Int) from rfl, HT.sIx_nat, List.drop_zero, Nat.sub_zero]
    congr 2
    rw [← List.map_take]
    congr 1
    by_cases h : 63 ≤ ns.length
    · rw [Nat.min_eq_left (by simpa using h)]
    · rw [Nat.min_eq_right (by simp; omega), List.take_of_length_le (by simp), List.take_of_length_le (by omega)]
  simp [d__law_box, b__law_box, x_lc, e1]
  rw [← List.map_take, lcL_map PV.int (fun i => PV.int (if i < 0 then -i else i)) trivial (ns.take 63) (fun i m => by simp)]
  have e2 : (ns.take 63).map (fun i => PV.int (if i < 0 then -i else i)) = ((ns.take 63).map fun i => if i < 0 then -i else i).map PV.int := by rw [List.map_map]; rfl
  rw [e2]
  generalize hcs : (ns.take 63).map (fun i : Int => if i < 0 then -i else i) = cs
  simp
  refine ⟨bxc cs 0 0 seed 0, fin_ref, cs, 0, 0, seed, 0, rfl, ?_, by omega, by omega, hs.1, hs.2, by omega, by omega⟩
  intro x hx
  rw [← hcs] at hx
  obtain ⟨y, -, rfl⟩ := List.mem_map.mp hx
  split <;> omega
theorem path_sc (n : Int) (es : List En) : ePath (scR n es) = ePath es := by
  unfold ePath scR
  rw [List.map_map]
  rfl
/-- the law's answer -/
def YesP (v : PV) (_ : Sto) : Prop := v = .bl true
theorem law_run (k : Nat) (ns : List Int) : ∃ v st', runF tab (k + 11) f_law [.arg (ns.map .int)] [] = some (.ok v st') ∧ YesP v st' := by
  rw [run_eq (d := d_law) rfl rfl]
  refine finE_of ?_
  have yes : ∀ {env : BR.Env} {st : Sto}, FinE [] YesP (.ok (.rt (.bl true)) env st) := by
    intro env st
    unfold FinE
    simp only [fin]
    split
    · exact ⟨_, _, rfl, rfl⟩
    · exact ⟨_, _, rfl, rfl⟩
  obtain ⟨b0, e0, hb0⟩ := box_run (k + 9) ns 818 (by omega)
  obtain ⟨ta, b1, ta0, ta1, hb1, e1⟩ := take_run (k + 9) _ b0 [] 3 (by omega) (by omega) hb0
  obtain ⟨tb, b2, tb0, tb1, hb2, e2⟩ := take_run (k + 9) _ b1 [] 3 (by omega) (by omega) hb1
  obtain ⟨tc, b3, tc0, tc1, hb3, e3⟩ := take_run (k + 9) _ b2 [] 7 (by omega) (by omega) hb2
  obtain ⟨td, b4, td0, td1, hb4, e4⟩ := take_run (k + 9) _ b3 [] 3 (by omega) (by omega) hb3
  obtain ⟨na, rfl⟩ := Int.eq_ofNat_of_zero_le ta0
  obtain ⟨nb, rfl⟩ := Int.eq_ofNat_of_zero_le tb0
  obtain ⟨nc, rfl⟩ := Int.eq_ofNat_of_zero_le tc0
  obtain ⟨nd, rfl⟩ := Int.eq_ofNat_of_zero_le td0
  have nil : StP [] := rfl
  obtain ⟨v, st', e5, ds, b5, rfl, dl, dw, rfl, hb5⟩ := words_run (k + 8) _ b4 [] (1 + nd) (by omega) (by omega) hb4 nil
  obtain ⟨tt, b6, tt0, tt1, hb6, e6⟩ := take_run (k + 9) _ b5 [] 3 (by omega) (by omega) hb5
  obtain ⟨v, st', e7, c, b7, rfl, ok, lim, rfl, hb7⟩ := card_run (k + 5) _ b6 [] (1 + na) (1 + nb) nc (by omega) (by omega) (by omega) ds dw (by omega) (1 + tt) (by omega) (by omega) hb6 nil
  obtain ⟨tm, b8, tm0, tm1, hb8, e8⟩ := take_run (k + 9) _ b7 [] 6 (by omega) (by omega) hb7
  obtain ⟨tp, b9, tp0, tp1, hb9, e9⟩ := take_run (k + 9) _ b8 [] 5 (by omega) (by omega) hb8
  obtain ⟨nm, rfl⟩ := Int.eq_ofNat_of_zero_le tm0
  obtain ⟨np, rfl⟩ := Int.eq_ofNat_of_zero_le tp0
  obtain ⟨v, st', e10, es, x, b10, rfl, hL, hl5, rfl, hb10⟩ := led_run (k + 5) _ b9 [] c ok nm (by omega) (1 + np) (by omega) (by omega) hb9 nil
  obtain ⟨ts, b11, ts0, ts1, hb11, e11⟩ := take_run (k + 9) _ b10 [] 6 (by omega) (by omega) hb10
  obtain ⟨u9, b12, u90, u91, hb12, e12⟩ := take_run (k + 9) _ b11 [] 9 (by omega) (by omega) hb11
  obtain ⟨u5, b13, u50, u51, hb13, e13⟩ := take_run (k + 9) _ b12 [] 5 (by omega) (by omega) hb12
  obtain ⟨n, hn, e14⟩ : ∃ n : Int, (1 ≤ n ∧ n ≤ 33) ∧ ∀ σ, idxP σ (.tup [.int 1, .int 1, .int 2, .int 1, .int 7, .int 33]) (.int ts) = some (.int n) := by
    rcases (show ts = 0 ∨ ts = 1 ∨ ts = 2 ∨ ts = 3 ∨ ts = 4 ∨ ts = 5 by omega) with h | h | h | h | h | h <;> subst h
    · exact ⟨1, by omega, fun _ => rfl⟩
    · exact ⟨1, by omega, fun _ => rfl⟩
    · exact ⟨2, by omega, fun _ => rfl⟩
    · exact ⟨1, by omega, fun _ => rfl⟩
    · exact ⟨7, by omega, fun _ => rfl⟩
    · exact ⟨33, by omega, fun _ => rfl⟩
  obtain ⟨q, hq, q0⟩ : ∃ q : Int, 3000 = q * (1 + u5) ∧ 0 < q ∧ q ≤ 3000 := by
    rcases (show u5 = 0 ∨ u5 = 1 ∨ u5 = 2 ∨ u5 = 3 ∨ u5 = 4 by omega) with h | h | h | h | h <;> subst h
    · exact ⟨3000, by omega, by omega⟩
    · exact ⟨1500, by omega, by omega⟩
    · exact ⟨1000, by omega, by omega⟩
    · exact ⟨750, by omega, by omega⟩
    · exact ⟨600, by omega, by omega⟩
  have m1 : smul (1 + u9) n := smS (by omega) (by omega)
  have mb : 0 ≤ (1 + u9) * n ∧ (1 + u9) * n ≤ 9 * 33 := ⟨Int.mul_nonneg (by omega) (by omega), Int.mul_le_mul (by omega) hn.2 (by omega) (by omega)⟩
  have e15 := fun σ => low_run (k + 9) ((1 + u9) * n) (1 + u5) ((1 + u9) * n * q) σ (by omega) (by omega) (by rw [hq, ← Int.mul_assoc])
  have hm : 0 ≤ (1 + u9) * n * q ∧ (1 + u9) * n * q ≤ 100000000 := by
    have k1 : 0 ≤ (1 + u9) * n * q := Int.mul_nonneg mb.1 (by omega)
    have k2 : (1 + u9) * n * q ≤ (9 * 33) * 3000 := Int.mul_le_mul mb.2 q0.2 (by omega) (by omega)
    omega
  generalize (1 + u9) * n * q = m at *
  have e16 := fun σ => scaled_run (k + 8) n (by omega) c ok σ
  obtain ⟨ok2, lim2⟩ := card_sc (n := n) ok (t := 1 + tt) (by omega) lim hn
  have row2 := row_sc hn c es 0 (by omega) hL.row hL.big
  rw [Int.zero_mul] at row2
  have w2 := walk_sc hn.1 c es 0 (std0 c)
  rw [hL.wlk, Int.zero_mul, ← std_sc] at w2
  simp only [Option.map_some] at w2
  obtain ⟨z, hz⟩ := rest0 (walk_stay w2 (std0_stay ok2))
  have len2 : (scR n es).length = es.length := by simp [scR]
  have e17 : eRow (scR n es) = .tup (es.map fun e => PV.tup [mo (e.1 * n), .str e.2.2.deed]) := by
    unfold eRow scR
    rw [List.map_map]
    rfl
  obtain ⟨g, hg, gpu, e18⟩ := gate_run k (scC n c) [b13] ok2
  have np1 := no_place_run (k + 3) (scC n c) ok2 g hg (scR n es) row2 (by rw [len2]; omega) w2 hz (es.length : Int) (by rw [len2]; omega) [b13]
  have np2 := no_place_run (k + 3) (scC n c) ok2 g hg (scR n es) row2 (by rw [len2]; omega) w2 hz (-1) (by omega) [b13]
  rw [show ((1 + nd : Nat) : Int) = 1 + (nd : Int) by omega] at e5
  rw [show ((1 + na : Nat) : Int) = 1 + (na : Int) by omega, show ((1 + nb : Nat) : Int) = 1 + (nb : Int) by omega] at e7
  rw [show ((1 + np : Nat) : Int) = 1 + (np : Int) by omega] at e10
  have i0 : ∀ σ, idxP σ (.tup [eRow es, ePath es, eStd c.cl x]) (.int 0) = some (eRow es) := fun _ => rfl
  have i1 : ∀ σ, idxP σ (.tup [eRow es, ePath es, eStd c.cl x]) (.int 1) = some (ePath es) := fun _ => rfl
  have hrun : PV.tup [eRow (scR n es), ePath es, .tup [.int 0, .int 1]] = eRun (scR n es) := by rw [← path_sc n es]; rfl
  simp [d_law, b_law, e0, e1, e2, e3, e4, e5, e6, e7, e8, e9, e10, e11, e12, e13, e14, m1, e15, e16, i0, i1, x_lc]
  rw [lcL_map eEn (fun e => PV.tup [mo (e.1 * n), .str e.2.2.deed]) trivial es (fun e me => by
    have hb := hL.big e me
    have hn0 := (RowOk.bd hL.row (by omega) e me).1
    have ms : smul (nu e.1) n := by
      have := nu_abs e.1
      exact smS (by omega) (by omega)
    have lr := low_run (k + 9) (nu e.1 * n) (de e.1) (e.1 * n) [b13] (de_pos _) (de_sm _) (by
      have := nu_de e.1
      rw [Int.mul_assoc, Int.mul_comm n, ← Int.mul_assoc, this, Int.mul_assoc, Int.mul_comm (de e.1), ← Int.mul_assoc])
    simp [ms, lr])]
  simp [← e17, e18, i0, i1, hrun, len2, np1, np2]
  by_cases h0 : es = []
  · simp [h0]
    exact yes
  · have hne : es ≠ [] := h0
    have r := hL.runD ok (t := 1 + tt) (by omega) lim hn hl5 hne
    have pt := path_table_run (k + 4) (scC n c) ok2 g hg (scR n es) r.row.path r.ch (by rw [len2]; omega) r.lt (by simp [xOf]) (fun j _ => (xOf_bd r.row j).1) [b13]
    rw [path_sc] at pt
    have it := is_table_run (k + 7) ((scR n es).length + 2) (ptT (scC n c) (scR n es)) (r.tb ok2) [b13]
    have it2 := it
    rw [show (((scR n es).length + 2 : Nat) : Int) = (es.length : Int) + 2 by rw [len2]; omega] at it
    rw [show (((scR n es).length + 2 : Nat) : Int) = ((scR n es).length : Int) + 2 by omega] at it2
    have rg : ∀ σ, rngL (.int ((scR n es).length : Int)) σ = some (.ok ((List.range es.length).map (fun (i : Nat) => PV.int (i : Int)), none) σ) := fun σ => by rw [len2]; exact rngL_nat es.length (by omega)
    simp [h0, i1, pt, it, it2, rg, q_fors, rngL_nat es.length (show es.length ≤ 1000000 by omega)]
    let en : BR.Env := [some (.arg (ns.map .int)), some (.ref 0), some (.tup [.int (1 + (na : Int)), .int (1 + (nb : Int)), .int nc]), some (.lst (eL ds)), some (eCrd (scC n c)), some (.tup [eRow es, ePath es, eStd c.cl x]), some (.int n), some (mo m), some (eRow (scR n es)), some g, some (eRun (scR n es)), some (eTb ((scR n es).length + 2) (ptT (scC n c) (scR n es))), none, none]
    refine for_Q (fun i : Nat => PV.int i) (fun l env σ => env = en ∧ σ = [b13] ∧ ∀ i ∈ l, i < es.length) (List.range es.length) rfl ⟨rfl, rfl, by simp⟩ (fun _ _ _ _ => trivial) ?_ ?_
    · rintro env σ ⟨rfl, rfl, -⟩
      simp [en]
      exact yes
    · rintro i l env σ ⟨rfl, rfl, hi⟩ Q hn' hr
      have pl := place_run (k + 3) (scC n c) ok2 g hg (scR n es) r i (by rw [len2]; exact hi i (by simp)) m hm [b13]
      simp [en, pl]
      exact hn' _ _ ⟨rfl, rfl, fun i mi => hi i (by simp [mi])⟩
end K87
end
section
set_option Elab.async false
set_option linter.all false
set_option maxRecDepth 100000
set_option maxHeartbeats 0
/-! K87Chk: every small text is what the row says (printed by genhead.py). -/
namespace K87
open PySem PySem.Spec PyProof.Rows L2 BR
def nm : Nms := ⟨symAt, fnAt, fun i => ([0, 1, 2, 3, 4, 5, 6, 7, 8, 9, 10, 11, 12, 13, 14, 15, 16, 17, 18, 19, 20, 21, 22, 23, 25, 26, 27, 28, 29, 30, 31, 32, 33, 34, 35, 36, 37, 38, 39, 40, 41, 42, 43, 44, 45, 46, 47, 48, 49, 50, 51, 52, 53, 54, 55, 57, 58, 59, 60, 61, 62, 63, 64, 65, 66, 67, 68, 69, 70, 71, 72, 73, 74, 75, 76, 77, 78, 79, 80, 81, 82, 83, 84, 86, 87, 88, 89, 90, 91, 92, 93, 94, 95, 97, 98, 99, 100] : List Nat).contains i, fun i => ([0] : List Nat).contains i, fun i => ([1] : List Nat).contains i, fun c f => ([(1, 2)] : List (Nat × Nat)).contains (c, f)⟩
theorem c_law : chkSs nm n_law (defScope s_law) b_law (defBody s_law) = true := by decide +kernel
theorem c__law_box : chkSs nm n__law_box (defScope s__law_box) b__law_box (defBody s__law_box) = true := by decide +kernel
theorem c__law_take : chkSs nm n__law_take (defScope s__law_take) b__law_take (defBody s__law_take) = true := by decide +kernel
theorem c__law_words : chkSs nm n__law_words (defScope s__law_words) b__law_words (defBody s__law_words) = true := by decide +kernel
theorem c__law_card : chkSs nm n__law_card (defScope s__law_card) b__law_card (defBody s__law_card) = true := by decide +kernel
theorem c__law_led : chkSs nm n__law_led (defScope s__law_led) b__law_led (defBody s__law_led) = true := by decide +kernel
theorem c__law_low : chkSs nm n__law_low (defScope s__law_low) b__law_low (defBody s__law_low) = true := by decide +kernel
theorem c__law_scaled : chkSs nm n__law_scaled (defScope s__law_scaled) b__law_scaled (defBody s__law_scaled) = true := by decide +kernel
theorem c__law_gate : chkSs nm n__law_gate (defScope s__law_gate) b__law_gate (defBody s__law_gate) = true := by decide +kernel
theorem c__law_no_place : chkSs nm n__law_no_place (defScope s__law_no_place) b__law_no_place (defBody s__law_no_place) = true := by decide +kernel
theorem c_path_table : chkSs nm n_path_table (defScope s_path_table) b_path_table (defBody s_path_table) = true := by decide +kernel
theorem c__law_is_table : chkSs nm n__law_is_table (defScope s__law_is_table) b__law_is_table (defBody s__law_is_table) = true := by decide +kernel
theorem c__law_place_holds : chkSs nm n__law_place_holds (defScope s__law_place_holds) b__law_place_holds (defBody s__law_place_holds) = true := by decide +kernel
theorem c__law_dotted : chkSs nm n__law_dotted (defScope s__law_dotted) b__law_dotted (defBody s__law_dotted) = true := by decide +kernel
theorem c__law_stay : chkSs nm n__law_stay (defScope s__law_stay) b__law_stay (defBody s__law_stay) = true := by decide +kernel
theorem c__law_step : chkSs nm n__law_step (defScope s__law_step) b__law_step (defBody s__law_step) = true := by decide +kernel
theorem c__law_some : chkSs nm n__law_some (defScope s__law_some) b__law_some (defBody s__law_some) = true := by decide +kernel
theorem c__law_begin : chkSs nm n__law_begin (defScope s__law_begin) b__law_begin (defBody s__law_begin) = true := by decide +kernel
theorem c__law_less : chkSs nm n__law_less (defScope s__law_less) b__law_less (defBody s__law_less) = true := by decide +kernel
theorem c__law_plus : chkSs nm n__law_plus (defScope s__law_plus) b__law_plus (defBody s__law_plus) = true := by decide +kernel
theorem c__law_rested : chkSs nm n__law_rested (defScope s__law_rested) b__law_rested (defBody s__law_rested) = true := by decide +kernel
theorem c__law_let : chkSs nm n__law_let (defScope s__law_let) b__law_let (defBody s__law_let) = true := by decide +kernel
theorem c__law_after : chkSs nm n__law_after (defScope s__law_after) b__law_after (defBody s__law_after) = true := by decide +kernel
theorem c__law_scaled_edge : chkSs nm n__law_scaled_edge (defScope s__law_scaled_edge) b__law_scaled_edge (defBody s__law_scaled_edge) = true := by decide +kernel
theorem c_Gate_init : chkSs nm n_Gate_init (defScope s_Gate_init) b_Gate_init (defBody s_Gate_init) = true := by decide +kernel
theorem c_slack : chkSs nm n_slack (defScope s_slack) b_slack (defBody s_slack) = true := by decide +kernel
theorem c_path_conditions : chkSs nm n_path_conditions (defScope s_path_conditions) b_path_conditions (defBody s_path_conditions) = true := by decide +kernel
theorem c__test_conditions : chkSs nm n__test_conditions (defScope s__test_conditions) b__test_conditions (defBody s__test_conditions) = true := by decide +kernel
theorem c_close : chkSs nm n_close (defScope s_close) b_close (defBody s_close) = true := by decide +kernel
theorem c_table_with : chkSs nm n_table_with (defScope s_table_with) b_table_with (defBody s_table_with) = true := by decide +kernel
theorem c__law_is_cap : chkSs nm n__law_is_cap (defScope s__law_is_cap) b__law_is_cap (defBody s__law_is_cap) = true := by decide +kernel
theorem c__law_is_bound : chkSs nm n__law_is_bound (defScope s__law_is_bound) b__law_is_bound (defBody s__law_is_bound) = true := by decide +kernel
theorem c__law_piece : chkSs nm n__law_piece (defScope s__law_piece) b__law_piece (defBody s__law_piece) = true := by decide +kernel
theorem c__law_moved : chkSs nm n__law_moved (defScope s__law_moved) b__law_moved (defBody s__law_moved) = true := by decide +kernel
theorem c__law_run_end : chkSs nm n__law_run_end (defScope s__law_run_end) b__law_run_end (defBody s__law_run_end) = true := by decide +kernel
theorem c__law_within : chkSs nm n__law_within (defScope s__law_within) b__law_within (defBody s__law_within) = true := by decide +kernel
theorem c_keeps : chkSs nm n_keeps (defScope s_keeps) b_keeps (defBody s_keeps) = true := by decide +kernel
theorem c__law_tried : chkSs nm n__law_tried (defScope s__law_tried) b__law_tried (defBody s__law_tried) = true := by decide +kernel
theorem c__law_test : chkSs nm n__law_test (defScope s__law_test) b__law_test (defBody s__law_test) = true := by decide +kernel
theorem c__law_stays : chkSs nm n__law_stays (defScope s__law_stays) b__law_stays (defBody s__law_stays) = true := by decide +kernel
theorem c__law_holds : chkSs nm n__law_holds (defScope s__law_holds) b__law_holds (defBody s__law_holds) = true := by decide +kernel
theorem c__check_parts : chkSs nm n__check_parts (defScope s__check_parts) b__check_parts (defBody s__check_parts) = true := by decide +kernel
theorem c__deeds_in : chkSs nm n__deeds_in (defScope s__deeds_in) b__deeds_in (defBody s__deeds_in) = true := by decide +kernel
theorem c__ceilings_in : chkSs nm n__ceilings_in (defScope s__ceilings_in) b__ceilings_in (defBody s__ceilings_in) = true := by decide +kernel
theorem c__places_of : chkSs nm n__places_of (defScope s__places_of) b__places_of (defBody s__places_of) = true := by decide +kernel
theorem c__steps_by_source : chkSs nm n__steps_by_source (defScope s__steps_by_source) b__steps_by_source (defBody s__steps_by_source) = true := by decide +kernel
theorem c_check_row : chkSs nm n_check_row (defScope s_check_row) b_check_row (defBody s_check_row) = true := by decide +kernel
theorem c_standing_after : chkSs nm n_standing_after (defScope s_standing_after) b_standing_after (defBody s_standing_after) = true := by decide +kernel
theorem c_since : chkSs nm n_since (defScope s_since) b_since (defBody s_since) = true := by decide +kernel
theorem c__lesser_high : chkSs nm n__lesser_high (defScope s__lesser_high) b__lesser_high (defBody s__lesser_high) = true := by decide +kernel
theorem c__high_beside : chkSs nm n__high_beside (defScope s__high_beside) b__high_beside (defBody s__high_beside) = true := by decide +kernel
theorem c__greater_low : chkSs nm n__greater_low (defScope s__greater_low) b__greater_low (defBody s__greater_low) = true := by decide +kernel
theorem c__low_beside : chkSs nm n__low_beside (defScope s__low_beside) b__low_beside (defBody s__low_beside) = true := by decide +kernel
theorem c__states_along : chkSs nm n__states_along (defScope s__states_along) b__states_along (defBody s__states_along) = true := by decide +kernel
theorem c__stay_conditions : chkSs nm n__stay_conditions (defScope s__stay_conditions) b__stay_conditions (defBody s__stay_conditions) = true := by decide +kernel
theorem c_last_reset : chkSs nm n_last_reset (defScope s_last_reset) b_last_reset (defBody s_last_reset) = true := by decide +kernel
theorem c_Gate_clock_number : chkSs nm n_Gate_clock_number (defScope s_Gate_clock_number) b_Gate_clock_number (defBody s_Gate_clock_number) = true := by decide +kernel
theorem c_span_caps : chkSs nm n_span_caps (defScope s_span_caps) b_span_caps (defBody s_span_caps) = true := by decide +kernel
theorem c_effective : chkSs nm n_effective (defScope s_effective) b_effective (defBody s_effective) = true := by decide +kernel
theorem c_row_through : chkSs nm n_row_through (defScope s_row_through) b_row_through (defBody s_row_through) = true := by decide +kernel
theorem c_is_condition : chkSs nm n_is_condition (defScope s_is_condition) b_is_condition (defBody s_is_condition) = true := by decide +kernel
theorem c_tightened : chkSs nm n_tightened (defScope s_tightened) b_tightened (defBody s_tightened) = true := by decide +kernel
theorem c__law_whole : chkSs nm n__law_whole (defScope s__law_whole) b__law_whole (defBody s__law_whole) = true := by decide +kernel
theorem c__law_is_moment : chkSs nm n__law_is_moment (defScope s__law_is_moment) b__law_is_moment (defBody s__law_is_moment) = true := by decide +kernel
theorem c__law_shift : chkSs nm n__law_shift (defScope s__law_shift) b__law_shift (defBody s__law_shift) = true := by decide +kernel
theorem c__law_gap : chkSs nm n__law_gap (defScope s__law_gap) b__law_gap (defBody s__law_gap) = true := by decide +kernel
theorem c__law_is_row : chkSs nm n__law_is_row (defScope s__law_is_row) b__law_is_row (defBody s__law_is_row) = true := by decide +kernel
theorem c_cap_allows : chkSs nm n_cap_allows (defScope s_cap_allows) b_cap_allows (defBody s_cap_allows) = true := by decide +kernel
theorem c__law_total : chkSs nm n__law_total (defScope s__law_total) b__law_total (defBody s__law_total) = true := by decide +kernel
theorem c__law_span : chkSs nm n__law_span (defScope s__law_span) b__law_span (defBody s__law_span) = true := by decide +kernel
theorem c__law_stay_of : chkSs nm n__law_stay_of (defScope s__law_stay_of) b__law_stay_of (defBody s__law_stay_of) = true := by decide +kernel
theorem c__law_in : chkSs nm n__law_in (defScope s__law_in) b__law_in (defBody s__law_in) = true := by decide +kernel
theorem c_is_name : chkSs nm n_is_name (defScope s_is_name) b_is_name (defBody s_is_name) = true := by decide +kernel
theorem c__wrong_clock : chkSs nm n__wrong_clock (defScope s__wrong_clock) b__wrong_clock (defBody s__wrong_clock) = true := by decide +kernel
theorem c__wrong_state : chkSs nm n__wrong_state (defScope s__wrong_state) b__wrong_state (defBody s__wrong_state) = true := by decide +kernel
theorem c__wrong_step : chkSs nm n__wrong_step (defScope s__wrong_step) b__wrong_step (defBody s__wrong_step) = true := by decide +kernel
theorem c__wrong_name : chkSs nm n__wrong_name (defScope s__wrong_name) b__wrong_name (defBody s__wrong_name) = true := by decide +kernel
theorem c_is_simple : chkSs nm n_is_simple (defScope s_is_simple) b_is_simple (defBody s_is_simple) = true := by decide +kernel
theorem c__wrong_entry : chkSs nm n__wrong_entry (defScope s__wrong_entry) b__wrong_entry (defBody s__wrong_entry) = true := by decide +kernel
theorem c_start : chkSs nm n_start (defScope s_start) b_start (defBody s_start) = true := by decide +kernel
theorem c__after_rest : chkSs nm n__after_rest (defScope s__after_rest) b__after_rest (defBody s__after_rest) = true := by decide +kernel
theorem c__after_step : chkSs nm n__after_step (defScope s__after_step) b__after_step (defBody s__after_step) = true := by decide +kernel
theorem c__rests_before : chkSs nm n__rests_before (defScope s__rests_before) b__rests_before (defBody s__rests_before) = true := by decide +kernel
theorem c_moment : chkSs nm n_moment (defScope s_moment) b_moment (defBody s_moment) = true := by decide +kernel
theorem c_compared : chkSs nm n_compared (defScope s_compared) b_compared (defBody s_compared) = true := by decide +kernel
theorem c_Gate_stay_of : chkSs nm n_Gate_stay_of (defScope s_Gate_stay_of) b_Gate_stay_of (defBody s_Gate_stay_of) = true := by decide +kernel
theorem c_least_cap : chkSs nm n_least_cap (defScope s_least_cap) b_least_cap (defBody s_least_cap) = true := by decide +kernel
theorem c_is_whole : chkSs nm n_is_whole (defScope s_is_whole) b_is_whole (defBody s_is_whole) = true := by decide +kernel
theorem c_is_cap : chkSs nm n_is_cap (defScope s_is_cap) b_is_cap (defBody s_is_cap) = true := by decide +kernel
theorem c__are_clock_pairs : chkSs nm n__are_clock_pairs (defScope s__are_clock_pairs) b__are_clock_pairs (defBody s__are_clock_pairs) = true := by decide +kernel
theorem c__is_stay_edge : chkSs nm n__is_stay_edge (defScope s__is_stay_edge) b__is_stay_edge (defBody s__is_stay_edge) = true := by decide +kernel
theorem c__is_step : chkSs nm n__is_step (defScope s__is_step) b__is_step (defBody s__is_step) = true := by decide +kernel
theorem c_is_moment : chkSs nm n_is_moment (defScope s_is_moment) b_is_moment (defBody s_is_moment) = true := by decide +kernel
theorem c_advanced : chkSs nm n_advanced (defScope s_advanced) b_advanced (defBody s_advanced) = true := by decide +kernel
theorem c_stay_holds : chkSs nm n_stay_holds (defScope s_stay_holds) b_stay_holds (defBody s_stay_holds) = true := by decide +kernel
theorem c_test_holds : chkSs nm n_test_holds (defScope s_test_holds) b_test_holds (defBody s_test_holds) = true := by decide +kernel
theorem c_Gate_state_index : chkSs nm n_Gate_state_index (defScope s_Gate_state_index) b_Gate_state_index (defBody s_Gate_state_index) = true := by decide +kernel
theorem c_is_edge : chkSs nm n_is_edge (defScope s_is_edge) b_is_edge (defBody s_is_edge) = true := by decide +kernel
theorem c_is_span : chkSs nm n_is_span (defScope s_is_span) b_is_span (defBody s_is_span) = true := by decide +kernel
theorem c_added : chkSs nm n_added (defScope s_added) b_added (defBody s_added) = true := by decide +kernel
theorem c_in_span : chkSs nm n_in_span (defScope s_in_span) b_in_span (defBody s_in_span) = true := by decide +kernel
end K87
end
section
set_option Elab.async false
set_option linter.all false
set_option maxRecDepth 100000
set_option maxHeartbeats 4000000
/-! K87Grd: the facts of the module as the framework asks them (printed by genhead3.py). -/
namespace K87
open PySem PySem.W PySem.Spec PyProof.Rows L2 BR He
def wd (K : PySem.W.Frag) : Wd := ⟨K, fun f => fAd K (pathAt f), fun c => ga K (symAt c), symAt, xfT⟩
theorem symAt_inj (i j : Nat) (h : symAt i = symAt j) : i = j := by
  have small : ∀ x ∈ syms, x.cps.all (fun c => decide (c < 1114112)) = true := List.all_eq_true.mp (by decide +kernel)
  have nd : syms.Nodup := by decide +kernel
  have big : ∀ i x, syms[i]? = some x → ∀ n, x ≠ (⟨#[1114112 + n]⟩ : Str) := fun i x e n z => by
    have := small x (List.mem_of_getElem? e)
    rw [z] at this
    simp at this
    omega
  unfold symAt at h
  cases e1 : syms[i]? with
  | none =>
    rw [e1] at h
    cases e2 : syms[j]? with
    | none =>
      rw [e2] at h
      simp only at h
      injection h with h
      have h2 := congrArg (fun a => a.toList) h
      simp at h2
      exact h2
    | some y =>
      rw [e2] at h
      exact absurd h.symm (big j y e2 i)
  | some x =>
    rw [e1] at h
    cases e2 : syms[j]? with
    | none =>
      rw [e2] at h
      exact absurd h (big i x e1 j)
    | some y =>
      rw [e2] at h
      simp only at h
      subst h
      exact (List.getElem?_inj (List.getElem?_eq_some_iff.mp e1).1 nd).mp (e1.trans e2.symm)
theorem tupB_K {K : PySem.W.Frag} {x : Str} {vs : List Dv} (h : tupB K x vs = true) : TupK K (ga K x) (vs.map (Dv.v K)) := by
  unfold tupB at h
  cases q : K.lookup (ga K x) with
  | none => rw [q] at h; cases h
  | some o =>
    obtain ⟨oc, od, dt, osl⟩ := o
    rw [q] at h
    cases oc <;> cases dt <;> first | (cases h; done) | skip
    rename_i c its n
    obtain ⟨h1, h2⟩ := ba (show (decide (c = "tuple") && (decide (its.size ≤ sizeLine) && relAll (vs.map (Dv.v K)) its.toList)) = true from h)
    obtain ⟨h3, h4⟩ := ba h2
    exact ⟨_, its, n, q, congrArg Value.type (of_decide_eq_true h1), rfl, of_decide_eq_true h3, relAll_ok h4⟩
theorem emptyB_K {K : PySem.W.Frag} {a : Addr} (h : emptyB K a = true) : TupK K a [] := by
  unfold emptyB at h
  cases q : K.lookup a with
  | none => rw [q] at h; cases h
  | some o =>
    obtain ⟨oc, od, dt, osl⟩ := o
    rw [q] at h
    cases oc <;> cases dt <;> first | (cases h; done) | skip
    rename_i c its n
    obtain ⟨h1, h2⟩ := ba (show (decide (c = "tuple") && its.isEmpty) = true from h)
    have e : its = #[] := by simpa using h2
    subst e
    exact ⟨_, _, n, q, congrArg Value.type (of_decide_eq_true h1), rfl, by simp, .nil⟩
theorem bindsFull {K : PySem.W.Frag} {x qual : Str} {params : Arguments} {body : List Stmt} {scope : Scope} {kws : List (Str × V)} {f : Addr} {fd : FuncData} {ps : List Str} (F : FunD K x qual params body scope [] kws f fd)
    (h : ∀ (kV doc pm : Value) (an : Option Addr) (cdv ct : Value) (us : List Value), us.length = ps.length → bindArgs (PySem.W.fnOf x qual params body scope .none kV doc pm an cdv ct) ⟨us, []⟩ = pure (ps.zip us)) : Binds K fd ps [] := by
  obtain ⟨oc, od, dV, kV, doc, pm, an, cdv, ct, osl, rfl, lk, hcd, ⟨_, rfl⟩ | ⟨z, _⟩, hK⟩ := F.ex
  rotate_left
  · exact absurd rfl z
  exact .all (h kV doc pm an cdv ct)
theorem grd {K : PySem.W.Frag} {h0 : Heap} {mg : Str → Option Value} (X : K.In h0) (G : h0.Ns mainGlobals mg) (hb : bx K = true) : Grd K mg (wd K) nm tab := by
  have h := bx_all hb
  have glo : ∀ f, isgL.contains f = true → mg (fnAt f) = some (.ref (fAd K (pathAt f))) := fun f hf => by
    have hm : f ∈ isgL := by simpa using hf
    have e : pathAt f = (fnAt f, none) := of_decide_eq_true (List.all_eq_true.mp (show (isgL.all fun f => decide (pathAt f = (fnAt f, none))) = true by decide +kernel) f hm)
    rw [e]
    exact glo_ok X G (List.all_eq_true.mp h.2.2.2.2.2.2.2.2.2.2.2.2.2.2.2.2.2.2.2.2.1 f hm)
  refine ⟨rfl, rfl, symAt_inj, fun x hx => ?_, ?_, fun f hf => ?_, fun f => ?_, fun x v e => ?_, fun c f e => ?_, fun c hc => ?_, fun c m f e => ?_, fun c f e => ?_, rfl, fun c hc => ?_, fun c f hc => ?_⟩
  · exact free_ok X G (List.all_eq_true.mp h.2.2.2.2.2.2.2.2.2.2.2.2.2.2.2.2.2.2.2.2.2.1 x (by simpa using hx))
  · exact PySem.W.mg_of X G (eqO_ok h.2.2.2.2.2.2.2.2.2.2.2.2.2.2.2.2.2.2.2.2.2.2.2.2.1)
  · exact glo f hf
  · show keepIn K (.ref (fAd K (pathAt f))) = true
    by_cases hl : f < 101
    · exact List.all_eq_true.mp h.2.2.2.2.2.2.2.2.2.2.2.2.2.2.2.2.2.2.2.2.2.2.1 f (List.mem_range.mpr hl)
    · have e : paths[f]? = none := List.getElem?_eq_none (Nat.le_trans (by decide +kernel) (Nat.le_of_not_lt hl))
      have e2 : pathAt f = pathAt 0 := by
        unfold pathAt
        rw [e]
        decide +kernel
      rw [e2]
      exact List.all_eq_true.mp h.2.2.2.2.2.2.2.2.2.2.2.2.2.2.2.2.2.2.2.2.2.2.1 0 (List.mem_range.mpr (by decide))
  · have e : glb x = some v := e
    unfold glb at e
    split at e <;> first | (cases e; done) | skip
    · cases e
      exact ⟨_, .ref _, glo_ok X G (x := "ZERO_slack") h.2.2.2.2.2.2.2.2.2.2.1, rfl, fun _ _ _ => .tupK (tupB_K h.2.2.2.2.2.2.2.2.2.2.2.2.2.2.2.2.2.2.2.2.2.2.2.2.2.1) (by rw [sizeLine_eq]; decide +kernel) (.cons (.int 0) (.cons (.int 1) (.nil)))⟩
    · cases e
      exact ⟨_, .ref _, glo_ok X G (x := "NO_MORE") h.2.2.2.2.2.2.2.2.2.2.2.1, rfl, fun _ _ _ => .tupK (tupB_K h.2.2.2.2.2.2.2.2.2.2.2.2.2.2.2.2.2.2.2.2.2.2.2.2.2.2.1) (by rw [sizeLine_eq]; decide +kernel) (.cons (.int 0) (.cons (.int 1) (.nil)))⟩
    · cases e
      exact ⟨_, .ref _, glo_ok X G (x := "ZERO_moments") h.2.2.2.2.2.2.2.2.2.2.2.2.1, rfl, fun _ _ _ => .tupK (tupB_K h.2.2.2.2.2.2.2.2.2.2.2.2.2.2.2.2.2.2.2.2.2.2.2.2.2.2.2.1) (by rw [sizeLine_eq]; decide +kernel) (.cons (.int 0) (.cons (.int 1) (.nil)))⟩
    · cases e
      exact ⟨_, .ref _, glo 77 (by decide +kernel), rfl, fun _ _ _ => .fn 77⟩
    · cases e
      obtain ⟨t, hm⟩ := int_ok X G (x := "MOST_CHARACTERS") (i := 200) h.2.2.2.2.2.2.2.2.2.2.2.2.2.1
      exact ⟨_, .int 200, hm, ⟨t, rfl⟩, fun _ _ _ => .int _⟩
    · cases e
      exact ⟨_, .ref _, glo 72 (by decide +kernel), rfl, fun _ _ _ => .fn 72⟩
    · cases e
      obtain ⟨t, hm⟩ := int_ok X G (x := "MOST_CLOCKS") (i := 6) h.2.2.2.2.2.2.2.2.2.2.2.2.2.2.1
      exact ⟨_, .int 6, hm, ⟨t, rfl⟩, fun _ _ _ => .int _⟩
    · cases e
      obtain ⟨t, hm⟩ := int_ok X G (x := "MOST_STATES") (i := 64) h.2.2.2.2.2.2.2.2.2.2.2.2.2.2.2.1
      exact ⟨_, .int 64, hm, ⟨t, rfl⟩, fun _ _ _ => .int _⟩
    · cases e
      exact ⟨_, .ref _, glo 90 (by decide +kernel), rfl, fun _ _ _ => .fn 90⟩
    · cases e
      obtain ⟨t, hm⟩ := int_ok X G (x := "MOST_STEPS") (i := 400) h.2.2.2.2.2.2.2.2.2.2.2.2.2.2.2.2.1
      exact ⟨_, .int 400, hm, ⟨t, rfl⟩, fun _ _ _ => .int _⟩
    · cases e
      obtain ⟨t, hm⟩ := int_ok X G (x := "MOST_LETTERS") (i := 12) h.2.2.2.2.2.2.2.2.2.2.2.2.2.2.2.2.2.1
      exact ⟨_, .int 12, hm, ⟨t, rfl⟩, fun _ _ _ => .int _⟩
    · cases e
      obtain ⟨t, hm⟩ := str_ok X G (x := "LETTERS") (z := "abcdefghijklmnopqrstuvwxyz") h.2.2.2.2.2.2.2.2.2.2.2.2.2.2.2.2.2.2.1
      exact ⟨_, .str _, hm, ⟨t, rfl⟩, fun _ _ _ => .str (by rw [sizeLine_eq]; decide +kernel)⟩
    · cases e
      exact ⟨_, .ref _, glo_ok X G (x := "ZERO_running") h.2.2.2.2.2.2.2.2.2.2.2.2.2.2.2.2.2.2.2.1, rfl, fun _ _ _ => .tupK (tupB_K h.2.2.2.2.2.2.2.2.2.2.2.2.2.2.2.2.2.2.2.2.2.2.2.2.2.2.2.2.1) (by rw [sizeLine_eq]; decide +kernel) (.cons (.int 0) (.cons (.int 1) (.nil)))⟩
    · cases e
      exact ⟨_, .ref _, glo 98 (by decide +kernel), rfl, fun _ _ _ => .fn 98⟩
  · have e : iniT c = some f := e
    unfold iniT at e
    split at e
    · rename_i hc
      subst hc
      cases e
      exact ⟨glo_ok X G (x := "Gate") h.1, mkr_ok (x := "Gate") h.2.2.1⟩
    · cases e
  · have hc : [0].contains c = true := hc
    have e : c = 0 := by simpa using hc
    subst e
    exact ⟨_, rfl⟩
  · have e : mthT c m = some f := e
    unfold mthT at e
    split at e
    · rename_i hc
      obtain ⟨rfl, rfl⟩ := hc
      cases e
      exact ⟨cls_ok (x := "Gate") h.2.1, meth_ok (x := "Gate") (m := "clock_number") h.2.2.2.1⟩
    split at e
    · rename_i hc
      obtain ⟨rfl, rfl⟩ := hc
      cases e
      exact ⟨cls_ok (x := "Gate") h.2.1, meth_ok (x := "Gate") (m := "stay_of") h.2.2.2.2.1⟩
    split at e
    · rename_i hc
      obtain ⟨rfl, rfl⟩ := hc
      cases e
      exact ⟨cls_ok (x := "Gate") h.2.1, meth_ok (x := "Gate") (m := "state_index") h.2.2.2.2.2.1⟩
    cases e
  · have e2 : (decide (c = 0) && at_Gate.contains f) = true := e
    have e3 := of_decide_eq_true (ba e2).1
    have e4 : f ∈ at_Gate := List.contains_iff_mem.mp (ba e2).2
    subst e3
    exact ⟨cls_ok (x := "Gate") h.2.1, noat_ok (x := "Gate") (List.all_eq_true.mp h.2.2.2.2.2.2.2.2.2.2.2.2.2.2.2.2.2.2.2.2.2.2.2.1 f e4)⟩
  · have hc : [1].contains c = true := hc
    have e : c = 1 := by simpa using hc
    subst e
    exact ⟨glo_ok X G (x := "InvalidRow") h.2.2.2.2.2.2.1, xfB_ok h.2.2.2.2.2.2.2.2.2.2.2.2.2.2.2.2.2.2.2.2.2.2.2.2.2.2.2.2.2.1, exm_ok (x := "InvalidRow") (y := "InvalidRow") (b := true) h.2.2.2.2.2.2.2.1⟩
  · have hc : [(1, 2)].contains (c, f) = true := hc
    have e : c = 1 ∧ f = 2 := by simpa using hc
    obtain ⟨rfl, rfl⟩ := e
    exact noat_ok (x := "InvalidRow") (f := "index") h.2.2.2.2.2.2.2.2.1
theorem own_InvalidRow {K : PySem.W.Frag} (hb : bx K = true) : ownB K ("InvalidRow", some "__init__") (ga K "InvalidRow") "index" "InvalidRow.__init__" "/claim/cut.py" = true := (bx_all hb).2.2.2.2.2.2.2.2.2.2.2.2.2.2.2.2.2.2.2.2.2.2.2.2.2.2.2.2.2.2.1
theorem free_super {K : PySem.W.Frag} (hb : bx K = true) : (Fa.free "super").ok K = true := (bx_all hb).2.2.2.2.2.2.2.2.2.1
theorem S_law : FnScope n_law (["_law_script"] : List Str) (defScope s_law) := ⟨rfl, rfl, rfl, by decide +kernel, rfl, by decide +kernel, by decide +kernel⟩
theorem I_law {K : PySem.W.Frag} (c : SaysX bx fnl xsl K) : FunIs K (wd K) nm 0 d_law := by
  obtain ⟨fd, F⟩ := c.def_ 0 (d := D_law) rfl
  exact .plain (ps := (["_law_script"] : List Str)) (N := n_law) (dvs := []) rfl F S_law rfl (fun _ _ _ => .nil) .nil (bindsFull F fun _ _ _ _ _ _ us hl => match us, hl with | [_], _ => rfl) rfl c_law
theorem S__law_box : FnScope n__law_box (["_law_script", "_law_seed"] : List Str) (defScope s__law_box) := ⟨rfl, rfl, rfl, by decide +kernel, rfl, by decide +kernel, by decide +kernel⟩
theorem I__law_box {K : PySem.W.Frag} (c : SaysX bx fnl xsl K) : FunIs K (wd K) nm 1 d__law_box := by
  obtain ⟨fd, F⟩ := c.def_ 1 (d := D__law_box) rfl
  exact .plain (ps := (["_law_script", "_law_seed"] : List Str)) (N := n__law_box) (dvs := []) rfl F S__law_box rfl (fun _ _ _ => .nil) .nil (bindsFull F fun _ _ _ _ _ _ us hl => match us, hl with | [_, _], _ => rfl) rfl c__law_box
theorem S__law_take : FnScope n__law_take (["_law_box_here", "_law_many"] : List Str) (defScope s__law_take) := ⟨rfl, rfl, rfl, by decide +kernel, rfl, by decide +kernel, by decide +kernel⟩
theorem I__law_take {K : PySem.W.Frag} (c : SaysX bx fnl xsl K) : FunIs K (wd K) nm 2 d__law_take := by
  obtain ⟨fd, F⟩ := c.def_ 2 (d := D__law_take) rfl
  exact .plain (ps := (["_law_box_here", "_law_many"] : List Str)) (N := n__law_take) (dvs := []) rfl F S__law_take rfl (fun _ _ _ => .nil) .nil (bindsFull F fun _ _ _ _ _ _ us hl => match us, hl with | [_, _], _ => rfl) rfl c__law_take
theorem S__law_words : FnScope n__law_words (["_law_box_here", "_law_many"] : List Str) (defScope s__law_words) := ⟨rfl, rfl, rfl, by decide +kernel, rfl, by decide +kernel, by decide +kernel⟩
theorem I__law_words {K : PySem.W.Frag} (c : SaysX bx fnl xsl K) : FunIs K (wd K) nm 3 d__law_words := by
  obtain ⟨fd, F⟩ := c.def_ 3 (d := D__law_words) rfl
  exact .plain (ps := (["_law_box_here", "_law_many"] : List Str)) (N := n__law_words) (dvs := []) rfl F S__law_words rfl (fun _ _ _ => .nil) .nil (bindsFull F fun _ _ _ _ _ _ us hl => match us, hl with | [_, _], _ => rfl) rfl c__law_words
theorem S__law_card : FnScope n__law_card (["_law_box_here", "_law_sizes", "_law_top", "_law_deeds"] : List Str) (defScope s__law_card) := ⟨rfl, rfl, rfl, by decide +kernel, rfl, by decide +kernel, by decide +kernel⟩
theorem I__law_card {K : PySem.W.Frag} (c : SaysX bx fnl xsl K) : FunIs K (wd K) nm 4 d__law_card := by
  obtain ⟨fd, F⟩ := c.def_ 4 (d := D__law_card) rfl
  exact .plain (ps := (["_law_box_here", "_law_sizes", "_law_top", "_law_deeds"] : List Str)) (N := n__law_card) (dvs := []) rfl F S__law_card rfl (fun _ _ _ => .nil) .nil (bindsFull F fun _ _ _ _ _ _ us hl => match us, hl with | [_, _, _, _], _ => rfl) rfl c__law_card
theorem S__law_led : FnScope n__law_led (["_law_box_here", "_law_card_here", "_law_many", "_law_parts", "_law_until"] : List Str) (defScope s__law_led) := ⟨rfl, rfl, rfl, by decide +kernel, rfl, by decide +kernel, by decide +kernel⟩
theorem I__law_led {K : PySem.W.Frag} (c : SaysX bx fnl xsl K) : FunIs K (wd K) nm 5 d__law_led := by
  obtain ⟨fd, F⟩ := c.def_ 5 (d := D__law_led) rfl
  exact .plain (ps := (["_law_box_here", "_law_card_here", "_law_many", "_law_parts", "_law_until"] : List Str)) (N := n__law_led) (dvs := []) rfl F S__law_led rfl (fun _ _ _ => .nil) .nil (bindsFull F fun _ _ _ _ _ _ us hl => match us, hl with | [_, _, _, _, _], _ => rfl) rfl c__law_led
theorem S__law_low : FnScope n__law_low (["_law_top", "_law_low_here"] : List Str) (defScope s__law_low) := ⟨rfl, rfl, rfl, by decide +kernel, rfl, by decide +kernel, by decide +kernel⟩
theorem I__law_low {K : PySem.W.Frag} (c : SaysX bx fnl xsl K) : FunIs K (wd K) nm 6 d__law_low := by
  obtain ⟨fd, F⟩ := c.def_ 6 (d := D__law_low) rfl
  exact .plain (ps := (["_law_top", "_law_low_here"] : List Str)) (N := n__law_low) (dvs := []) rfl F S__law_low rfl (fun _ _ _ => .nil) .nil (bindsFull F fun _ _ _ _ _ _ us hl => match us, hl with | [_, _], _ => rfl) rfl c__law_low
theorem S__law_scaled : FnScope n__law_scaled (["_law_card_here", "_law_scale"] : List Str) (defScope s__law_scaled) := ⟨rfl, rfl, rfl, by decide +kernel, rfl, by decide +kernel, by decide +kernel⟩
theorem I__law_scaled {K : PySem.W.Frag} (c : SaysX bx fnl xsl K) : FunIs K (wd K) nm 7 d__law_scaled := by
  obtain ⟨fd, F⟩ := c.def_ 7 (d := D__law_scaled) rfl
  exact .plain (ps := (["_law_card_here", "_law_scale"] : List Str)) (N := n__law_scaled) (dvs := []) rfl F S__law_scaled rfl (fun _ _ _ => .nil) .nil (bindsFull F fun _ _ _ _ _ _ us hl => match us, hl with | [_, _], _ => rfl) rfl c__law_scaled
theorem S__law_gate : FnScope n__law_gate (["_law_card_here"] : List Str) (defScope s__law_gate) := ⟨rfl, rfl, rfl, by decide +kernel, rfl, by decide +kernel, by decide +kernel⟩
theorem I__law_gate {K : PySem.W.Frag} (c : SaysX bx fnl xsl K) : FunIs K (wd K) nm 8 d__law_gate := by
  obtain ⟨fd, F⟩ := c.def_ 8 (d := D__law_gate) rfl
  exact .plain (ps := (["_law_card_here"] : List Str)) (N := n__law_gate) (dvs := []) rfl F S__law_gate rfl (fun _ _ _ => .nil) .nil (bindsFull F fun _ _ _ _ _ _ us hl => match us, hl with | [_], _ => rfl) rfl c__law_gate
theorem S__law_no_place : FnScope n__law_no_place (["_law_gate_here", "_law_run", "_law_place"] : List Str) (defScope s__law_no_place) := ⟨rfl, rfl, rfl, by decide +kernel, rfl, by decide +kernel, by decide +kernel⟩
theorem I__law_no_place {K : PySem.W.Frag} (c : SaysX bx fnl xsl K) : FunIs K (wd K) nm 9 d__law_no_place := by
  obtain ⟨fd, F⟩ := c.def_ 9 (d := D__law_no_place) rfl
  exact .plain (ps := (["_law_gate_here", "_law_run", "_law_place"] : List Str)) (N := n__law_no_place) (dvs := []) rfl F S__law_no_place rfl (fun _ _ _ => .nil) .nil (bindsFull F fun _ _ _ _ _ _ us hl => match us, hl with | [_, _, _], _ => rfl) rfl c__law_no_place
theorem S_path_table : FnScope n_path_table (["gate", "path", "tests"] : List Str) (defScope s_path_table) := ⟨rfl, rfl, rfl, by decide +kernel, rfl, by decide +kernel, by decide +kernel⟩
theorem I_path_table {K : PySem.W.Frag} (c : SaysX bx fnl xsl K) : FunIs K (wd K) nm 10 d_path_table := by
  obtain ⟨fd, F⟩ := c.def_ 10 (d := D_path_table) rfl
  have hb := bx_all c.all
  obtain ⟨ds, v, b⟩ := F.binds1 (ps := (["gate", "path", "tests"] : List Str)) 2 0 (by simp [D_path_table, DefD.dvs]) rfl fun T kV doc pm an cdv ct us its h1 h2 => match us, its, h1, h2 with | [_, _], [_], _, _ => ⟨_, rfl, rfl⟩
  exact .plain (ps := (["gate", "path", "tests"] : List Str)) (N := n_path_table) (dvs := [.ref (dflAt ("path_table", none) 0 K)]) rfl F S_path_table rfl (fun _ _ _ => .cons (.tupK (emptyB_K hb.2.2.2.2.2.2.2.2.2.2.2.2.2.2.2.2.2.2.2.2.2.2.2.2.2.2.2.2.2.2.2) (Nat.zero_le _) .nil) .nil) v b rfl c_path_table
theorem S__law_is_table : FnScope n__law_is_table (["_law_thing", "_law_size"] : List Str) (defScope s__law_is_table) := ⟨rfl, rfl, rfl, by decide +kernel, rfl, by decide +kernel, by decide +kernel⟩
theorem I__law_is_table {K : PySem.W.Frag} (c : SaysX bx fnl xsl K) : FunIs K (wd K) nm 11 d__law_is_table := by
  obtain ⟨fd, F⟩ := c.def_ 11 (d := D__law_is_table) rfl
  exact .plain (ps := (["_law_thing", "_law_size"] : List Str)) (N := n__law_is_table) (dvs := []) rfl F S__law_is_table rfl (fun _ _ _ => .nil) .nil (bindsFull F fun _ _ _ _ _ _ us hl => match us, hl with | [_, _], _ => rfl) rfl c__law_is_table
theorem S__law_place_holds : FnScope n__law_place_holds (["_law_card_here", "_law_gate_here", "_law_table", "_law_run", "_law_place", "_law_more"] : List Str) (defScope s__law_place_holds) := ⟨rfl, rfl, rfl, by decide +kernel, rfl, by decide +kernel, by decide +kernel⟩
theorem I__law_place_holds {K : PySem.W.Frag} (c : SaysX bx fnl xsl K) : FunIs K (wd K) nm 12 d__law_place_holds := by
  obtain ⟨fd, F⟩ := c.def_ 12 (d := D__law_place_holds) rfl
  exact .plain (ps := (["_law_card_here", "_law_gate_here", "_law_table", "_law_run", "_law_place", "_law_more"] : List Str)) (N := n__law_place_holds) (dvs := []) rfl F S__law_place_holds rfl (fun _ _ _ => .nil) .nil (bindsFull F fun _ _ _ _ _ _ us hl => match us, hl with | [_, _, _, _, _, _], _ => rfl) rfl c__law_place_holds
theorem S__law_dotted : FnScope n__law_dotted (["_law_box_here", "_law_words_here"] : List Str) (defScope s__law_dotted) := ⟨rfl, rfl, rfl, by decide +kernel, rfl, by decide +kernel, by decide +kernel⟩
theorem I__law_dotted {K : PySem.W.Frag} (c : SaysX bx fnl xsl K) : FunIs K (wd K) nm 13 d__law_dotted := by
  obtain ⟨fd, F⟩ := c.def_ 13 (d := D__law_dotted) rfl
  exact .plain (ps := (["_law_box_here", "_law_words_here"] : List Str)) (N := n__law_dotted) (dvs := []) rfl F S__law_dotted rfl (fun _ _ _ => .nil) .nil (bindsFull F fun _ _ _ _ _ _ us hl => match us, hl with | [_, _], _ => rfl) rfl c__law_dotted
theorem S__law_stay : FnScope n__law_stay (["_law_box_here", "_law_clocks", "_law_top"] : List Str) (defScope s__law_stay) := ⟨rfl, rfl, rfl, by decide +kernel, rfl, by decide +kernel, by decide +kernel⟩
theorem I__law_stay {K : PySem.W.Frag} (c : SaysX bx fnl xsl K) : FunIs K (wd K) nm 14 d__law_stay := by
  obtain ⟨fd, F⟩ := c.def_ 14 (d := D__law_stay) rfl
  exact .plain (ps := (["_law_box_here", "_law_clocks", "_law_top"] : List Str)) (N := n__law_stay) (dvs := []) rfl F S__law_stay rfl (fun _ _ _ => .nil) .nil (bindsFull F fun _ _ _ _ _ _ us hl => match us, hl with | [_, _, _], _ => rfl) rfl c__law_stay
theorem S__law_step : FnScope n__law_step (["_law_box_here", "_law_clocks", "_law_states", "_law_deeds", "_law_top"] : List Str) (defScope s__law_step) := ⟨rfl, rfl, rfl, by decide +kernel, rfl, by decide +kernel, by decide +kernel⟩
theorem I__law_step {K : PySem.W.Frag} (c : SaysX bx fnl xsl K) : FunIs K (wd K) nm 15 d__law_step := by
  obtain ⟨fd, F⟩ := c.def_ 15 (d := D__law_step) rfl
  exact .plain (ps := (["_law_box_here", "_law_clocks", "_law_states", "_law_deeds", "_law_top"] : List Str)) (N := n__law_step) (dvs := []) rfl F S__law_step rfl (fun _ _ _ => .nil) .nil (bindsFull F fun _ _ _ _ _ _ us hl => match us, hl with | [_, _, _, _, _], _ => rfl) rfl c__law_step
theorem S__law_some : FnScope n__law_some (["_law_box_here", "_law_things"] : List Str) (defScope s__law_some) := ⟨rfl, rfl, rfl, by decide +kernel, rfl, by decide +kernel, by decide +kernel⟩
theorem I__law_some {K : PySem.W.Frag} (c : SaysX bx fnl xsl K) : FunIs K (wd K) nm 16 d__law_some := by
  obtain ⟨fd, F⟩ := c.def_ 16 (d := D__law_some) rfl
  exact .plain (ps := (["_law_box_here", "_law_things"] : List Str)) (N := n__law_some) (dvs := []) rfl F S__law_some rfl (fun _ _ _ => .nil) .nil (bindsFull F fun _ _ _ _ _ _ us hl => match us, hl with | [_, _], _ => rfl) rfl c__law_some
theorem S__law_begin : FnScope n__law_begin (["_law_card_here"] : List Str) (defScope s__law_begin) := ⟨rfl, rfl, rfl, by decide +kernel, rfl, by decide +kernel, by decide +kernel⟩
theorem I__law_begin {K : PySem.W.Frag} (c : SaysX bx fnl xsl K) : FunIs K (wd K) nm 17 d__law_begin := by
  obtain ⟨fd, F⟩ := c.def_ 17 (d := D__law_begin) rfl
  exact .plain (ps := (["_law_card_here"] : List Str)) (N := n__law_begin) (dvs := []) rfl F S__law_begin rfl (fun _ _ _ => .nil) .nil (bindsFull F fun _ _ _ _ _ _ us hl => match us, hl with | [_], _ => rfl) rfl c__law_begin
theorem S__law_less : FnScope n__law_less (["_law_one", "_law_other"] : List Str) (defScope s__law_less) := ⟨rfl, rfl, rfl, by decide +kernel, rfl, by decide +kernel, by decide +kernel⟩
theorem I__law_less {K : PySem.W.Frag} (c : SaysX bx fnl xsl K) : FunIs K (wd K) nm 18 d__law_less := by
  obtain ⟨fd, F⟩ := c.def_ 18 (d := D__law_less) rfl
  exact .plain (ps := (["_law_one", "_law_other"] : List Str)) (N := n__law_less) (dvs := []) rfl F S__law_less rfl (fun _ _ _ => .nil) .nil (bindsFull F fun _ _ _ _ _ _ us hl => match us, hl with | [_, _], _ => rfl) rfl c__law_less
theorem S__law_plus : FnScope n__law_plus (["_law_one", "_law_other"] : List Str) (defScope s__law_plus) := ⟨rfl, rfl, rfl, by decide +kernel, rfl, by decide +kernel, by decide +kernel⟩
theorem I__law_plus {K : PySem.W.Frag} (c : SaysX bx fnl xsl K) : FunIs K (wd K) nm 19 d__law_plus := by
  obtain ⟨fd, F⟩ := c.def_ 19 (d := D__law_plus) rfl
  exact .plain (ps := (["_law_one", "_law_other"] : List Str)) (N := n__law_plus) (dvs := []) rfl F S__law_plus rfl (fun _ _ _ => .nil) .nil (bindsFull F fun _ _ _ _ _ _ us hl => match us, hl with | [_, _], _ => rfl) rfl c__law_plus
theorem S__law_rested : FnScope n__law_rested (["_law_card_here", "_law_standing", "_law_gap_here"] : List Str) (defScope s__law_rested) := ⟨rfl, rfl, rfl, by decide +kernel, rfl, by decide +kernel, by decide +kernel⟩
theorem I__law_rested {K : PySem.W.Frag} (c : SaysX bx fnl xsl K) : FunIs K (wd K) nm 20 d__law_rested := by
  obtain ⟨fd, F⟩ := c.def_ 20 (d := D__law_rested) rfl
  exact .plain (ps := (["_law_card_here", "_law_standing", "_law_gap_here"] : List Str)) (N := n__law_rested) (dvs := []) rfl F S__law_rested rfl (fun _ _ _ => .nil) .nil (bindsFull F fun _ _ _ _ _ _ us hl => match us, hl with | [_, _, _], _ => rfl) rfl c__law_rested
theorem S__law_let : FnScope n__law_let (["_law_card_here", "_law_standing"] : List Str) (defScope s__law_let) := ⟨rfl, rfl, rfl, by decide +kernel, rfl, by decide +kernel, by decide +kernel⟩
theorem I__law_let {K : PySem.W.Frag} (c : SaysX bx fnl xsl K) : FunIs K (wd K) nm 21 d__law_let := by
  obtain ⟨fd, F⟩ := c.def_ 21 (d := D__law_let) rfl
  exact .plain (ps := (["_law_card_here", "_law_standing"] : List Str)) (N := n__law_let) (dvs := []) rfl F S__law_let rfl (fun _ _ _ => .nil) .nil (bindsFull F fun _ _ _ _ _ _ us hl => match us, hl with | [_, _], _ => rfl) rfl c__law_let
theorem S__law_after : FnScope n__law_after (["_law_card_here", "_law_standing", "_law_step_here"] : List Str) (defScope s__law_after) := ⟨rfl, rfl, rfl, by decide +kernel, rfl, by decide +kernel, by decide +kernel⟩
theorem I__law_after {K : PySem.W.Frag} (c : SaysX bx fnl xsl K) : FunIs K (wd K) nm 22 d__law_after := by
  obtain ⟨fd, F⟩ := c.def_ 22 (d := D__law_after) rfl
  exact .plain (ps := (["_law_card_here", "_law_standing", "_law_step_here"] : List Str)) (N := n__law_after) (dvs := []) rfl F S__law_after rfl (fun _ _ _ => .nil) .nil (bindsFull F fun _ _ _ _ _ _ us hl => match us, hl with | [_, _, _], _ => rfl) rfl c__law_after
theorem S__law_scaled_edge : FnScope n__law_scaled_edge (["_law_edge", "_law_scale"] : List Str) (defScope s__law_scaled_edge) := ⟨rfl, rfl, rfl, by decide +kernel, rfl, by decide +kernel, by decide +kernel⟩
theorem I__law_scaled_edge {K : PySem.W.Frag} (c : SaysX bx fnl xsl K) : FunIs K (wd K) nm 23 d__law_scaled_edge := by
  obtain ⟨fd, F⟩ := c.def_ 23 (d := D__law_scaled_edge) rfl
  exact .plain (ps := (["_law_edge", "_law_scale"] : List Str)) (N := n__law_scaled_edge) (dvs := []) rfl F S__law_scaled_edge rfl (fun _ _ _ => .nil) .nil (bindsFull F fun _ _ _ _ _ _ us hl => match us, hl with | [_, _], _ => rfl) rfl c__law_scaled_edge
theorem S_Gate_init : FnScope n_Gate_init (["self", "name", "clocks", "states", "steps", "also"] : List Str) (defScope s_Gate_init) := ⟨rfl, rfl, rfl, by decide +kernel, rfl, by decide +kernel, by decide +kernel⟩
theorem I_Gate_init {K : PySem.W.Frag} (c : SaysX bx fnl xsl K) : FunIs K (wd K) nm 24 d_Gate_init := by
  obtain ⟨fd, F⟩ := c.def_ 24 (d := D_Gate_init) rfl
  obtain ⟨ds, v, b⟩ := F.binds1 (ps := (["self", "name", "clocks", "states", "steps", "also"] : List Str)) 6 1 (by simp [D_Gate_init, DefD.dvs]) rfl fun T kV doc pm an cdv ct us its h1 h2 => match us, its, h1, h2 with | [_, _, _, _, _, _], [_], _, _ => ⟨_, rfl, rfl⟩
  exact .plain (ps := (["self", "name", "clocks", "states", "steps", "also"] : List Str)) (N := n_Gate_init) (dvs := []) rfl F S_Gate_init rfl (fun _ _ _ => .nil) v b rfl c_Gate_init
theorem S_slack : FnScope n_slack (["gate", "row", "path", "place"] : List Str) (defScope s_slack) := ⟨rfl, rfl, rfl, by decide +kernel, rfl, by decide +kernel, by decide +kernel⟩
theorem I_slack {K : PySem.W.Frag} (c : SaysX bx fnl xsl K) : FunIs K (wd K) nm 25 d_slack := by
  obtain ⟨fd, F⟩ := c.def_ 25 (d := D_slack) rfl
  exact .plain (ps := (["gate", "row", "path", "place"] : List Str)) (N := n_slack) (dvs := []) rfl F S_slack rfl (fun _ _ _ => .nil) .nil (bindsFull F fun _ _ _ _ _ _ us hl => match us, hl with | [_, _, _, _], _ => rfl) rfl c_slack
theorem S_path_conditions : FnScope n_path_conditions (["gate", "path"] : List Str) (defScope s_path_conditions) := ⟨rfl, rfl, rfl, by decide +kernel, rfl, by decide +kernel, by decide +kernel⟩
theorem I_path_conditions {K : PySem.W.Frag} (c : SaysX bx fnl xsl K) : FunIs K (wd K) nm 26 d_path_conditions := by
  obtain ⟨fd, F⟩ := c.def_ 26 (d := D_path_conditions) rfl
  exact .plain (ps := (["gate", "path"] : List Str)) (N := n_path_conditions) (dvs := []) rfl F S_path_conditions rfl (fun _ _ _ => .nil) .nil (bindsFull F fun _ _ _ _ _ _ us hl => match us, hl with | [_, _], _ => rfl) rfl c_path_conditions
theorem S__test_conditions : FnScope n__test_conditions (["gate", "path", "index", "test"] : List Str) (defScope s__test_conditions) := ⟨rfl, rfl, rfl, by decide +kernel, rfl, by decide +kernel, by decide +kernel⟩
theorem I__test_conditions {K : PySem.W.Frag} (c : SaysX bx fnl xsl K) : FunIs K (wd K) nm 27 d__test_conditions := by
  obtain ⟨fd, F⟩ := c.def_ 27 (d := D__test_conditions) rfl
  exact .plain (ps := (["gate", "path", "index", "test"] : List Str)) (N := n__test_conditions) (dvs := []) rfl F S__test_conditions rfl (fun _ _ _ => .nil) .nil (bindsFull F fun _ _ _ _ _ _ us hl => match us, hl with | [_, _, _, _], _ => rfl) rfl c__test_conditions
theorem S_close : FnScope n_close (["table"] : List Str) (defScope s_close) := ⟨rfl, rfl, rfl, by decide +kernel, rfl, by decide +kernel, by decide +kernel⟩
theorem I_close {K : PySem.W.Frag} (c : SaysX bx fnl xsl K) : FunIs K (wd K) nm 28 d_close := by
  obtain ⟨fd, F⟩ := c.def_ 28 (d := D_close) rfl
  exact .plain (ps := (["table"] : List Str)) (N := n_close) (dvs := []) rfl F S_close rfl (fun _ _ _ => .nil) .nil (bindsFull F fun _ _ _ _ _ _ us hl => match us, hl with | [_], _ => rfl) rfl c_close
theorem S_table_with : FnScope n_table_with (["clocks", "conditions"] : List Str) (defScope s_table_with) := ⟨rfl, rfl, rfl, by decide +kernel, rfl, by decide +kernel, by decide +kernel⟩
theorem I_table_with {K : PySem.W.Frag} (c : SaysX bx fnl xsl K) : FunIs K (wd K) nm 29 d_table_with := by
  obtain ⟨fd, F⟩ := c.def_ 29 (d := D_table_with) rfl
  exact .star (ps := (["clocks"] : List Str)) (pv := "conditions") (N := n_table_with) rfl F S_table_with rfl (fun kV doc pm an cdv ct us rest hl => match us, rest, hl with | [_], [], _ => rfl | [_], _ :: _, _ => rfl) rfl c_table_with
theorem S__law_is_cap : FnScope n__law_is_cap (["_law_thing"] : List Str) (defScope s__law_is_cap) := ⟨rfl, rfl, rfl, by decide +kernel, rfl, by decide +kernel, by decide +kernel⟩
theorem I__law_is_cap {K : PySem.W.Frag} (c : SaysX bx fnl xsl K) : FunIs K (wd K) nm 30 d__law_is_cap := by
  obtain ⟨fd, F⟩ := c.def_ 30 (d := D__law_is_cap) rfl
  exact .plain (ps := (["_law_thing"] : List Str)) (N := n__law_is_cap) (dvs := []) rfl F S__law_is_cap rfl (fun _ _ _ => .nil) .nil (bindsFull F fun _ _ _ _ _ _ us hl => match us, hl with | [_], _ => rfl) rfl c__law_is_cap
theorem S__law_is_bound : FnScope n__law_is_bound (["_law_thing"] : List Str) (defScope s__law_is_bound) := ⟨rfl, rfl, rfl, by decide +kernel, rfl, by decide +kernel, by decide +kernel⟩
theorem I__law_is_bound {K : PySem.W.Frag} (c : SaysX bx fnl xsl K) : FunIs K (wd K) nm 31 d__law_is_bound := by
  obtain ⟨fd, F⟩ := c.def_ 31 (d := D__law_is_bound) rfl
  exact .plain (ps := (["_law_thing"] : List Str)) (N := n__law_is_bound) (dvs := []) rfl F S__law_is_bound rfl (fun _ _ _ => .nil) .nil (bindsFull F fun _ _ _ _ _ _ us hl => match us, hl with | [_], _ => rfl) rfl c__law_is_bound
theorem S__law_piece : FnScope n__law_piece (["_law_table", "_law_readings", "_law_place"] : List Str) (defScope s__law_piece) := ⟨rfl, rfl, rfl, by decide +kernel, rfl, by decide +kernel, by decide +kernel⟩
theorem I__law_piece {K : PySem.W.Frag} (c : SaysX bx fnl xsl K) : FunIs K (wd K) nm 32 d__law_piece := by
  obtain ⟨fd, F⟩ := c.def_ 32 (d := D__law_piece) rfl
  exact .plain (ps := (["_law_table", "_law_readings", "_law_place"] : List Str)) (N := n__law_piece) (dvs := []) rfl F S__law_piece rfl (fun _ _ _ => .nil) .nil (bindsFull F fun _ _ _ _ _ _ us hl => match us, hl with | [_, _, _], _ => rfl) rfl c__law_piece
theorem S__law_moved : FnScope n__law_moved (["_law_row", "_law_place", "_law_gap_here"] : List Str) (defScope s__law_moved) := ⟨rfl, rfl, rfl, by decide +kernel, rfl, by decide +kernel, by decide +kernel⟩
theorem I__law_moved {K : PySem.W.Frag} (c : SaysX bx fnl xsl K) : FunIs K (wd K) nm 33 d__law_moved := by
  obtain ⟨fd, F⟩ := c.def_ 33 (d := D__law_moved) rfl
  exact .plain (ps := (["_law_row", "_law_place", "_law_gap_here"] : List Str)) (N := n__law_moved) (dvs := []) rfl F S__law_moved rfl (fun _ _ _ => .nil) .nil (bindsFull F fun _ _ _ _ _ _ us hl => match us, hl with | [_, _, _], _ => rfl) rfl c__law_moved
theorem S__law_run_end : FnScope n__law_run_end (["_law_card_here", "_law_run"] : List Str) (defScope s__law_run_end) := ⟨rfl, rfl, rfl, by decide +kernel, rfl, by decide +kernel, by decide +kernel⟩
theorem I__law_run_end {K : PySem.W.Frag} (c : SaysX bx fnl xsl K) : FunIs K (wd K) nm 34 d__law_run_end := by
  obtain ⟨fd, F⟩ := c.def_ 34 (d := D__law_run_end) rfl
  exact .plain (ps := (["_law_card_here", "_law_run"] : List Str)) (N := n__law_run_end) (dvs := []) rfl F S__law_run_end rfl (fun _ _ _ => .nil) .nil (bindsFull F fun _ _ _ _ _ _ us hl => match us, hl with | [_, _], _ => rfl) rfl c__law_run_end
theorem S__law_within : FnScope n__law_within (["_law_gap_here", "_law_told"] : List Str) (defScope s__law_within) := ⟨rfl, rfl, rfl, by decide +kernel, rfl, by decide +kernel, by decide +kernel⟩
theorem I__law_within {K : PySem.W.Frag} (c : SaysX bx fnl xsl K) : FunIs K (wd K) nm 35 d__law_within := by
  obtain ⟨fd, F⟩ := c.def_ 35 (d := D__law_within) rfl
  exact .plain (ps := (["_law_gap_here", "_law_told"] : List Str)) (N := n__law_within) (dvs := []) rfl F S__law_within rfl (fun _ _ _ => .nil) .nil (bindsFull F fun _ _ _ _ _ _ us hl => match us, hl with | [_, _], _ => rfl) rfl c__law_within
theorem S_keeps : FnScope n_keeps (["table", "readings"] : List Str) (defScope s_keeps) := ⟨rfl, rfl, rfl, by decide +kernel, rfl, by decide +kernel, by decide +kernel⟩
theorem I_keeps {K : PySem.W.Frag} (c : SaysX bx fnl xsl K) : FunIs K (wd K) nm 36 d_keeps := by
  obtain ⟨fd, F⟩ := c.def_ 36 (d := D_keeps) rfl
  exact .plain (ps := (["table", "readings"] : List Str)) (N := n_keeps) (dvs := []) rfl F S_keeps rfl (fun _ _ _ => .nil) .nil (bindsFull F fun _ _ _ _ _ _ us hl => match us, hl with | [_, _], _ => rfl) rfl c_keeps
theorem S__law_tried : FnScope n__law_tried (["_law_told", "_law_more"] : List Str) (defScope s__law_tried) := ⟨rfl, rfl, rfl, by decide +kernel, rfl, by decide +kernel, by decide +kernel⟩
theorem I__law_tried {K : PySem.W.Frag} (c : SaysX bx fnl xsl K) : FunIs K (wd K) nm 37 d__law_tried := by
  obtain ⟨fd, F⟩ := c.def_ 37 (d := D__law_tried) rfl
  exact .plain (ps := (["_law_told", "_law_more"] : List Str)) (N := n__law_tried) (dvs := []) rfl F S__law_tried rfl (fun _ _ _ => .nil) .nil (bindsFull F fun _ _ _ _ _ _ us hl => match us, hl with | [_, _], _ => rfl) rfl c__law_tried
theorem S__law_test : FnScope n__law_test (["_law_box_here", "_law_clocks", "_law_top"] : List Str) (defScope s__law_test) := ⟨rfl, rfl, rfl, by decide +kernel, rfl, by decide +kernel, by decide +kernel⟩
theorem I__law_test {K : PySem.W.Frag} (c : SaysX bx fnl xsl K) : FunIs K (wd K) nm 38 d__law_test := by
  obtain ⟨fd, F⟩ := c.def_ 38 (d := D__law_test) rfl
  exact .plain (ps := (["_law_box_here", "_law_clocks", "_law_top"] : List Str)) (N := n__law_test) (dvs := []) rfl F S__law_test rfl (fun _ _ _ => .nil) .nil (bindsFull F fun _ _ _ _ _ _ us hl => match us, hl with | [_, _, _], _ => rfl) rfl c__law_test
theorem S__law_stays : FnScope n__law_stays (["_law_card_here", "_law_state", "_law_readings"] : List Str) (defScope s__law_stays) := ⟨rfl, rfl, rfl, by decide +kernel, rfl, by decide +kernel, by decide +kernel⟩
theorem I__law_stays {K : PySem.W.Frag} (c : SaysX bx fnl xsl K) : FunIs K (wd K) nm 39 d__law_stays := by
  obtain ⟨fd, F⟩ := c.def_ 39 (d := D__law_stays) rfl
  exact .plain (ps := (["_law_card_here", "_law_state", "_law_readings"] : List Str)) (N := n__law_stays) (dvs := []) rfl F S__law_stays rfl (fun _ _ _ => .nil) .nil (bindsFull F fun _ _ _ _ _ _ us hl => match us, hl with | [_, _, _], _ => rfl) rfl c__law_stays
theorem S__law_holds : FnScope n__law_holds (["_law_card_here", "_law_test_here", "_law_readings"] : List Str) (defScope s__law_holds) := ⟨rfl, rfl, rfl, by decide +kernel, rfl, by decide +kernel, by decide +kernel⟩
theorem I__law_holds {K : PySem.W.Frag} (c : SaysX bx fnl xsl K) : FunIs K (wd K) nm 40 d__law_holds := by
  obtain ⟨fd, F⟩ := c.def_ 40 (d := D__law_holds) rfl
  exact .plain (ps := (["_law_card_here", "_law_test_here", "_law_readings"] : List Str)) (N := n__law_holds) (dvs := []) rfl F S__law_holds rfl (fun _ _ _ => .nil) .nil (bindsFull F fun _ _ _ _ _ _ us hl => match us, hl with | [_, _, _], _ => rfl) rfl c__law_holds
theorem S__check_parts : FnScope n__check_parts (["name", "clocks", "states", "steps", "also"] : List Str) (defScope s__check_parts) := ⟨rfl, rfl, rfl, by decide +kernel, rfl, by decide +kernel, by decide +kernel⟩
theorem I__check_parts {K : PySem.W.Frag} (c : SaysX bx fnl xsl K) : FunIs K (wd K) nm 41 d__check_parts := by
  obtain ⟨fd, F⟩ := c.def_ 41 (d := D__check_parts) rfl
  exact .plain (ps := (["name", "clocks", "states", "steps", "also"] : List Str)) (N := n__check_parts) (dvs := []) rfl F S__check_parts rfl (fun _ _ _ => .nil) .nil (bindsFull F fun _ _ _ _ _ _ us hl => match us, hl with | [_, _, _, _, _], _ => rfl) rfl c__check_parts
theorem S__deeds_in : FnScope n__deeds_in (["steps", "also"] : List Str) (defScope s__deeds_in) := ⟨rfl, rfl, rfl, by decide +kernel, rfl, by decide +kernel, by decide +kernel⟩
theorem I__deeds_in {K : PySem.W.Frag} (c : SaysX bx fnl xsl K) : FunIs K (wd K) nm 42 d__deeds_in := by
  obtain ⟨fd, F⟩ := c.def_ 42 (d := D__deeds_in) rfl
  exact .plain (ps := (["steps", "also"] : List Str)) (N := n__deeds_in) (dvs := []) rfl F S__deeds_in rfl (fun _ _ _ => .nil) .nil (bindsFull F fun _ _ _ _ _ _ us hl => match us, hl with | [_, _], _ => rfl) rfl c__deeds_in
theorem S__ceilings_in : FnScope n__ceilings_in (["clocks", "states", "steps"] : List Str) (defScope s__ceilings_in) := ⟨rfl, rfl, rfl, by decide +kernel, rfl, by decide +kernel, by decide +kernel⟩
theorem I__ceilings_in {K : PySem.W.Frag} (c : SaysX bx fnl xsl K) : FunIs K (wd K) nm 43 d__ceilings_in := by
  obtain ⟨fd, F⟩ := c.def_ 43 (d := D__ceilings_in) rfl
  exact .plain (ps := (["clocks", "states", "steps"] : List Str)) (N := n__ceilings_in) (dvs := []) rfl F S__ceilings_in rfl (fun _ _ _ => .nil) .nil (bindsFull F fun _ _ _ _ _ _ us hl => match us, hl with | [_, _, _], _ => rfl) rfl c__ceilings_in
theorem S__places_of : FnScope n__places_of (["names"] : List Str) (defScope s__places_of) := ⟨rfl, rfl, rfl, by decide +kernel, rfl, by decide +kernel, by decide +kernel⟩
theorem I__places_of {K : PySem.W.Frag} (c : SaysX bx fnl xsl K) : FunIs K (wd K) nm 44 d__places_of := by
  obtain ⟨fd, F⟩ := c.def_ 44 (d := D__places_of) rfl
  exact .plain (ps := (["names"] : List Str)) (N := n__places_of) (dvs := []) rfl F S__places_of rfl (fun _ _ _ => .nil) .nil (bindsFull F fun _ _ _ _ _ _ us hl => match us, hl with | [_], _ => rfl) rfl c__places_of
theorem S__steps_by_source : FnScope n__steps_by_source (["states", "steps"] : List Str) (defScope s__steps_by_source) := ⟨rfl, rfl, rfl, by decide +kernel, rfl, by decide +kernel, by decide +kernel⟩
theorem I__steps_by_source {K : PySem.W.Frag} (c : SaysX bx fnl xsl K) : FunIs K (wd K) nm 45 d__steps_by_source := by
  obtain ⟨fd, F⟩ := c.def_ 45 (d := D__steps_by_source) rfl
  exact .plain (ps := (["states", "steps"] : List Str)) (N := n__steps_by_source) (dvs := []) rfl F S__steps_by_source rfl (fun _ _ _ => .nil) .nil (bindsFull F fun _ _ _ _ _ _ us hl => match us, hl with | [_, _], _ => rfl) rfl c__steps_by_source
theorem S_check_row : FnScope n_check_row (["row"] : List Str) (defScope s_check_row) := ⟨rfl, rfl, rfl, by decide +kernel, rfl, by decide +kernel, by decide +kernel⟩
theorem I_check_row {K : PySem.W.Frag} (c : SaysX bx fnl xsl K) : FunIs K (wd K) nm 46 d_check_row := by
  obtain ⟨fd, F⟩ := c.def_ 46 (d := D_check_row) rfl
  exact .plain (ps := (["row"] : List Str)) (N := n_check_row) (dvs := []) rfl F S_check_row rfl (fun _ _ _ => .nil) .nil (bindsFull F fun _ _ _ _ _ _ us hl => match us, hl with | [_], _ => rfl) rfl c_check_row
theorem S_standing_after : FnScope n_standing_after (["gate", "run"] : List Str) (defScope s_standing_after) := ⟨rfl, rfl, rfl, by decide +kernel, rfl, by decide +kernel, by decide +kernel⟩
theorem I_standing_after {K : PySem.W.Frag} (c : SaysX bx fnl xsl K) : FunIs K (wd K) nm 47 d_standing_after := by
  obtain ⟨fd, F⟩ := c.def_ 47 (d := D_standing_after) rfl
  exact .plain (ps := (["gate", "run"] : List Str)) (N := n_standing_after) (dvs := []) rfl F S_standing_after rfl (fun _ _ _ => .nil) .nil (bindsFull F fun _ _ _ _ _ _ us hl => match us, hl with | [_, _], _ => rfl) rfl c_standing_after
theorem S_since : FnScope n_since (["first", "second"] : List Str) (defScope s_since) := ⟨rfl, rfl, rfl, by decide +kernel, rfl, by decide +kernel, by decide +kernel⟩
theorem I_since {K : PySem.W.Frag} (c : SaysX bx fnl xsl K) : FunIs K (wd K) nm 48 d_since := by
  obtain ⟨fd, F⟩ := c.def_ 48 (d := D_since) rfl
  exact .plain (ps := (["first", "second"] : List Str)) (N := n_since) (dvs := []) rfl F S_since rfl (fun _ _ _ => .nil) .nil (bindsFull F fun _ _ _ _ _ _ us hl => match us, hl with | [_, _], _ => rfl) rfl c_since
theorem S__lesser_high : FnScope n__lesser_high (["first", "second"] : List Str) (defScope s__lesser_high) := ⟨rfl, rfl, rfl, by decide +kernel, rfl, by decide +kernel, by decide +kernel⟩
theorem I__lesser_high {K : PySem.W.Frag} (c : SaysX bx fnl xsl K) : FunIs K (wd K) nm 49 d__lesser_high := by
  obtain ⟨fd, F⟩ := c.def_ 49 (d := D__lesser_high) rfl
  exact .plain (ps := (["first", "second"] : List Str)) (N := n__lesser_high) (dvs := []) rfl F S__lesser_high rfl (fun _ _ _ => .nil) .nil (bindsFull F fun _ _ _ _ _ _ us hl => match us, hl with | [_, _], _ => rfl) rfl c__lesser_high
theorem S__high_beside : FnScope n__high_beside (["others", "cap"] : List Str) (defScope s__high_beside) := ⟨rfl, rfl, rfl, by decide +kernel, rfl, by decide +kernel, by decide +kernel⟩
theorem I__high_beside {K : PySem.W.Frag} (c : SaysX bx fnl xsl K) : FunIs K (wd K) nm 50 d__high_beside := by
  obtain ⟨fd, F⟩ := c.def_ 50 (d := D__high_beside) rfl
  exact .plain (ps := (["others", "cap"] : List Str)) (N := n__high_beside) (dvs := []) rfl F S__high_beside rfl (fun _ _ _ => .nil) .nil (bindsFull F fun _ _ _ _ _ _ us hl => match us, hl with | [_, _], _ => rfl) rfl c__high_beside
theorem S__greater_low : FnScope n__greater_low (["first", "second"] : List Str) (defScope s__greater_low) := ⟨rfl, rfl, rfl, by decide +kernel, rfl, by decide +kernel, by decide +kernel⟩
theorem I__greater_low {K : PySem.W.Frag} (c : SaysX bx fnl xsl K) : FunIs K (wd K) nm 51 d__greater_low := by
  obtain ⟨fd, F⟩ := c.def_ 51 (d := D__greater_low) rfl
  exact .plain (ps := (["first", "second"] : List Str)) (N := n__greater_low) (dvs := []) rfl F S__greater_low rfl (fun _ _ _ => .nil) .nil (bindsFull F fun _ _ _ _ _ _ us hl => match us, hl with | [_, _], _ => rfl) rfl c__greater_low
theorem S__low_beside : FnScope n__low_beside (["others", "cap"] : List Str) (defScope s__low_beside) := ⟨rfl, rfl, rfl, by decide +kernel, rfl, by decide +kernel, by decide +kernel⟩
theorem I__low_beside {K : PySem.W.Frag} (c : SaysX bx fnl xsl K) : FunIs K (wd K) nm 52 d__low_beside := by
  obtain ⟨fd, F⟩ := c.def_ 52 (d := D__low_beside) rfl
  exact .plain (ps := (["others", "cap"] : List Str)) (N := n__low_beside) (dvs := []) rfl F S__low_beside rfl (fun _ _ _ => .nil) .nil (bindsFull F fun _ _ _ _ _ _ us hl => match us, hl with | [_, _], _ => rfl) rfl c__low_beside
theorem S__states_along : FnScope n__states_along (["gate", "path"] : List Str) (defScope s__states_along) := ⟨rfl, rfl, rfl, by decide +kernel, rfl, by decide +kernel, by decide +kernel⟩
theorem I__states_along {K : PySem.W.Frag} (c : SaysX bx fnl xsl K) : FunIs K (wd K) nm 53 d__states_along := by
  obtain ⟨fd, F⟩ := c.def_ 53 (d := D__states_along) rfl
  exact .plain (ps := (["gate", "path"] : List Str)) (N := n__states_along) (dvs := []) rfl F S__states_along rfl (fun _ _ _ => .nil) .nil (bindsFull F fun _ _ _ _ _ _ us hl => match us, hl with | [_, _], _ => rfl) rfl c__states_along
theorem S__stay_conditions : FnScope n__stay_conditions (["gate", "path", "index", "state"] : List Str) (defScope s__stay_conditions) := ⟨rfl, rfl, rfl, by decide +kernel, rfl, by decide +kernel, by decide +kernel⟩
theorem I__stay_conditions {K : PySem.W.Frag} (c : SaysX bx fnl xsl K) : FunIs K (wd K) nm 54 d__stay_conditions := by
  obtain ⟨fd, F⟩ := c.def_ 54 (d := D__stay_conditions) rfl
  exact .plain (ps := (["gate", "path", "index", "state"] : List Str)) (N := n__stay_conditions) (dvs := []) rfl F S__stay_conditions rfl (fun _ _ _ => .nil) .nil (bindsFull F fun _ _ _ _ _ _ us hl => match us, hl with | [_, _, _, _], _ => rfl) rfl c__stay_conditions
theorem S_last_reset : FnScope n_last_reset (["gate", "path", "index", "clock"] : List Str) (defScope s_last_reset) := ⟨rfl, rfl, rfl, by decide +kernel, rfl, by decide +kernel, by decide +kernel⟩
theorem I_last_reset {K : PySem.W.Frag} (c : SaysX bx fnl xsl K) : FunIs K (wd K) nm 55 d_last_reset := by
  obtain ⟨fd, F⟩ := c.def_ 55 (d := D_last_reset) rfl
  exact .plain (ps := (["gate", "path", "index", "clock"] : List Str)) (N := n_last_reset) (dvs := []) rfl F S_last_reset rfl (fun _ _ _ => .nil) .nil (bindsFull F fun _ _ _ _ _ _ us hl => match us, hl with | [_, _, _, _], _ => rfl) rfl c_last_reset
theorem S_Gate_clock_number : FnScope n_Gate_clock_number (["self", "clock"] : List Str) (defScope s_Gate_clock_number) := ⟨rfl, rfl, rfl, by decide +kernel, rfl, by decide +kernel, by decide +kernel⟩
theorem I_Gate_clock_number {K : PySem.W.Frag} (c : SaysX bx fnl xsl K) : FunIs K (wd K) nm 56 d_Gate_clock_number := by
  obtain ⟨fd, F⟩ := c.def_ 56 (d := D_Gate_clock_number) rfl
  exact .plain (ps := (["self", "clock"] : List Str)) (N := n_Gate_clock_number) (dvs := []) rfl F S_Gate_clock_number rfl (fun _ _ _ => .nil) .nil (bindsFull F fun _ _ _ _ _ _ us hl => match us, hl with | [_, _], _ => rfl) rfl c_Gate_clock_number
theorem S_span_caps : FnScope n_span_caps (["span"] : List Str) (defScope s_span_caps) := ⟨rfl, rfl, rfl, by decide +kernel, rfl, by decide +kernel, by decide +kernel⟩
theorem I_span_caps {K : PySem.W.Frag} (c : SaysX bx fnl xsl K) : FunIs K (wd K) nm 57 d_span_caps := by
  obtain ⟨fd, F⟩ := c.def_ 57 (d := D_span_caps) rfl
  exact .plain (ps := (["span"] : List Str)) (N := n_span_caps) (dvs := []) rfl F S_span_caps rfl (fun _ _ _ => .nil) .nil (bindsFull F fun _ _ _ _ _ _ us hl => match us, hl with | [_], _ => rfl) rfl c_span_caps
theorem S_effective : FnScope n_effective (["table"] : List Str) (defScope s_effective) := ⟨rfl, rfl, rfl, by decide +kernel, rfl, by decide +kernel, by decide +kernel⟩
theorem I_effective {K : PySem.W.Frag} (c : SaysX bx fnl xsl K) : FunIs K (wd K) nm 58 d_effective := by
  obtain ⟨fd, F⟩ := c.def_ 58 (d := D_effective) rfl
  exact .plain (ps := (["table"] : List Str)) (N := n_effective) (dvs := []) rfl F S_effective rfl (fun _ _ _ => .nil) .nil (bindsFull F fun _ _ _ _ _ _ us hl => match us, hl with | [_], _ => rfl) rfl c_effective
theorem S_row_through : FnScope n_row_through (["row", "head", "through"] : List Str) (defScope s_row_through) := ⟨rfl, rfl, rfl, by decide +kernel, rfl, by decide +kernel, by decide +kernel⟩
theorem I_row_through {K : PySem.W.Frag} (c : SaysX bx fnl xsl K) : FunIs K (wd K) nm 59 d_row_through := by
  obtain ⟨fd, F⟩ := c.def_ 59 (d := D_row_through) rfl
  exact .plain (ps := (["row", "head", "through"] : List Str)) (N := n_row_through) (dvs := []) rfl F S_row_through rfl (fun _ _ _ => .nil) .nil (bindsFull F fun _ _ _ _ _ _ us hl => match us, hl with | [_, _, _], _ => rfl) rfl c_row_through
theorem S_is_condition : FnScope n_is_condition (["clocks", "value"] : List Str) (defScope s_is_condition) := ⟨rfl, rfl, rfl, by decide +kernel, rfl, by decide +kernel, by decide +kernel⟩
theorem I_is_condition {K : PySem.W.Frag} (c : SaysX bx fnl xsl K) : FunIs K (wd K) nm 60 d_is_condition := by
  obtain ⟨fd, F⟩ := c.def_ 60 (d := D_is_condition) rfl
  exact .plain (ps := (["clocks", "value"] : List Str)) (N := n_is_condition) (dvs := []) rfl F S_is_condition rfl (fun _ _ _ => .nil) .nil (bindsFull F fun _ _ _ _ _ _ us hl => match us, hl with | [_, _], _ => rfl) rfl c_is_condition
theorem S_tightened : FnScope n_tightened (["table", "conditions"] : List Str) (defScope s_tightened) := ⟨rfl, rfl, rfl, by decide +kernel, rfl, by decide +kernel, by decide +kernel⟩
theorem I_tightened {K : PySem.W.Frag} (c : SaysX bx fnl xsl K) : FunIs K (wd K) nm 61 d_tightened := by
  obtain ⟨fd, F⟩ := c.def_ 61 (d := D_tightened) rfl
  exact .plain (ps := (["table", "conditions"] : List Str)) (N := n_tightened) (dvs := []) rfl F S_tightened rfl (fun _ _ _ => .nil) .nil (bindsFull F fun _ _ _ _ _ _ us hl => match us, hl with | [_, _], _ => rfl) rfl c_tightened
theorem S__law_whole : FnScope n__law_whole (["_law_thing"] : List Str) (defScope s__law_whole) := ⟨rfl, rfl, rfl, by decide +kernel, rfl, by decide +kernel, by decide +kernel⟩
theorem I__law_whole {K : PySem.W.Frag} (c : SaysX bx fnl xsl K) : FunIs K (wd K) nm 62 d__law_whole := by
  obtain ⟨fd, F⟩ := c.def_ 62 (d := D__law_whole) rfl
  exact .plain (ps := (["_law_thing"] : List Str)) (N := n__law_whole) (dvs := []) rfl F S__law_whole rfl (fun _ _ _ => .nil) .nil (bindsFull F fun _ _ _ _ _ _ us hl => match us, hl with | [_], _ => rfl) rfl c__law_whole
theorem S__law_is_moment : FnScope n__law_is_moment (["_law_thing"] : List Str) (defScope s__law_is_moment) := ⟨rfl, rfl, rfl, by decide +kernel, rfl, by decide +kernel, by decide +kernel⟩
theorem I__law_is_moment {K : PySem.W.Frag} (c : SaysX bx fnl xsl K) : FunIs K (wd K) nm 63 d__law_is_moment := by
  obtain ⟨fd, F⟩ := c.def_ 63 (d := D__law_is_moment) rfl
  exact .plain (ps := (["_law_thing"] : List Str)) (N := n__law_is_moment) (dvs := []) rfl F S__law_is_moment rfl (fun _ _ _ => .nil) .nil (bindsFull F fun _ _ _ _ _ _ us hl => match us, hl with | [_], _ => rfl) rfl c__law_is_moment
theorem S__law_shift : FnScope n__law_shift (["_law_readings", "_law_place", "_law_late", "_law_early", "_law_limit"] : List Str) (defScope s__law_shift) := ⟨rfl, rfl, rfl, by decide +kernel, rfl, by decide +kernel, by decide +kernel⟩
theorem I__law_shift {K : PySem.W.Frag} (c : SaysX bx fnl xsl K) : FunIs K (wd K) nm 64 d__law_shift := by
  obtain ⟨fd, F⟩ := c.def_ 64 (d := D__law_shift) rfl
  exact .plain (ps := (["_law_readings", "_law_place", "_law_late", "_law_early", "_law_limit"] : List Str)) (N := n__law_shift) (dvs := []) rfl F S__law_shift rfl (fun _ _ _ => .nil) .nil (bindsFull F fun _ _ _ _ _ _ us hl => match us, hl with | [_, _, _, _, _], _ => rfl) rfl c__law_shift
theorem S__law_gap : FnScope n__law_gap (["_law_one", "_law_other"] : List Str) (defScope s__law_gap) := ⟨rfl, rfl, rfl, by decide +kernel, rfl, by decide +kernel, by decide +kernel⟩
theorem I__law_gap {K : PySem.W.Frag} (c : SaysX bx fnl xsl K) : FunIs K (wd K) nm 65 d__law_gap := by
  obtain ⟨fd, F⟩ := c.def_ 65 (d := D__law_gap) rfl
  exact .plain (ps := (["_law_one", "_law_other"] : List Str)) (N := n__law_gap) (dvs := []) rfl F S__law_gap rfl (fun _ _ _ => .nil) .nil (bindsFull F fun _ _ _ _ _ _ us hl => match us, hl with | [_, _], _ => rfl) rfl c__law_gap
theorem S__law_is_row : FnScope n__law_is_row (["_law_row"] : List Str) (defScope s__law_is_row) := ⟨rfl, rfl, rfl, by decide +kernel, rfl, by decide +kernel, by decide +kernel⟩
theorem I__law_is_row {K : PySem.W.Frag} (c : SaysX bx fnl xsl K) : FunIs K (wd K) nm 66 d__law_is_row := by
  obtain ⟨fd, F⟩ := c.def_ 66 (d := D__law_is_row) rfl
  exact .plain (ps := (["_law_row"] : List Str)) (N := n__law_is_row) (dvs := []) rfl F S__law_is_row rfl (fun _ _ _ => .nil) .nil (bindsFull F fun _ _ _ _ _ _ us hl => match us, hl with | [_], _ => rfl) rfl c__law_is_row
theorem S_cap_allows : FnScope n_cap_allows (["cap", "first", "second"] : List Str) (defScope s_cap_allows) := ⟨rfl, rfl, rfl, by decide +kernel, rfl, by decide +kernel, by decide +kernel⟩
theorem I_cap_allows {K : PySem.W.Frag} (c : SaysX bx fnl xsl K) : FunIs K (wd K) nm 67 d_cap_allows := by
  obtain ⟨fd, F⟩ := c.def_ 67 (d := D_cap_allows) rfl
  exact .plain (ps := (["cap", "first", "second"] : List Str)) (N := n_cap_allows) (dvs := []) rfl F S_cap_allows rfl (fun _ _ _ => .nil) .nil (bindsFull F fun _ _ _ _ _ _ us hl => match us, hl with | [_, _, _], _ => rfl) rfl c_cap_allows
theorem S__law_total : FnScope n__law_total (["_law_terms"] : List Str) (defScope s__law_total) := ⟨rfl, rfl, rfl, by decide +kernel, rfl, by decide +kernel, by decide +kernel⟩
theorem I__law_total {K : PySem.W.Frag} (c : SaysX bx fnl xsl K) : FunIs K (wd K) nm 68 d__law_total := by
  obtain ⟨fd, F⟩ := c.def_ 68 (d := D__law_total) rfl
  exact .plain (ps := (["_law_terms"] : List Str)) (N := n__law_total) (dvs := []) rfl F S__law_total rfl (fun _ _ _ => .nil) .nil (bindsFull F fun _ _ _ _ _ _ us hl => match us, hl with | [_], _ => rfl) rfl c__law_total
theorem S__law_span : FnScope n__law_span (["_law_box_here", "_law_top"] : List Str) (defScope s__law_span) := ⟨rfl, rfl, rfl, by decide +kernel, rfl, by decide +kernel, by decide +kernel⟩
theorem I__law_span {K : PySem.W.Frag} (c : SaysX bx fnl xsl K) : FunIs K (wd K) nm 69 d__law_span := by
  obtain ⟨fd, F⟩ := c.def_ 69 (d := D__law_span) rfl
  exact .plain (ps := (["_law_box_here", "_law_top"] : List Str)) (N := n__law_span) (dvs := []) rfl F S__law_span rfl (fun _ _ _ => .nil) .nil (bindsFull F fun _ _ _ _ _ _ us hl => match us, hl with | [_, _], _ => rfl) rfl c__law_span
theorem S__law_stay_of : FnScope n__law_stay_of (["_law_card_here", "_law_state"] : List Str) (defScope s__law_stay_of) := ⟨rfl, rfl, rfl, by decide +kernel, rfl, by decide +kernel, by decide +kernel⟩
theorem I__law_stay_of {K : PySem.W.Frag} (c : SaysX bx fnl xsl K) : FunIs K (wd K) nm 70 d__law_stay_of := by
  obtain ⟨fd, F⟩ := c.def_ 70 (d := D__law_stay_of) rfl
  exact .plain (ps := (["_law_card_here", "_law_state"] : List Str)) (N := n__law_stay_of) (dvs := []) rfl F S__law_stay_of rfl (fun _ _ _ => .nil) .nil (bindsFull F fun _ _ _ _ _ _ us hl => match us, hl with | [_, _], _ => rfl) rfl c__law_stay_of
theorem S__law_in : FnScope n__law_in (["_law_when", "_law_bounds"] : List Str) (defScope s__law_in) := ⟨rfl, rfl, rfl, by decide +kernel, rfl, by decide +kernel, by decide +kernel⟩
theorem I__law_in {K : PySem.W.Frag} (c : SaysX bx fnl xsl K) : FunIs K (wd K) nm 71 d__law_in := by
  obtain ⟨fd, F⟩ := c.def_ 71 (d := D__law_in) rfl
  exact .plain (ps := (["_law_when", "_law_bounds"] : List Str)) (N := n__law_in) (dvs := []) rfl F S__law_in rfl (fun _ _ _ => .nil) .nil (bindsFull F fun _ _ _ _ _ _ us hl => match us, hl with | [_, _], _ => rfl) rfl c__law_in
theorem S_is_name : FnScope n_is_name (["value"] : List Str) (defScope s_is_name) := ⟨rfl, rfl, rfl, by decide +kernel, rfl, by decide +kernel, by decide +kernel⟩
theorem I_is_name {K : PySem.W.Frag} (c : SaysX bx fnl xsl K) : FunIs K (wd K) nm 72 d_is_name := by
  obtain ⟨fd, F⟩ := c.def_ 72 (d := D_is_name) rfl
  exact .plain (ps := (["value"] : List Str)) (N := n_is_name) (dvs := []) rfl F S_is_name rfl (fun _ _ _ => .nil) .nil (bindsFull F fun _ _ _ _ _ _ us hl => match us, hl with | [_], _ => rfl) rfl c_is_name
theorem S__wrong_clock : FnScope n__wrong_clock (["clocks"] : List Str) (defScope s__wrong_clock) := ⟨rfl, rfl, rfl, by decide +kernel, rfl, by decide +kernel, by decide +kernel⟩
theorem I__wrong_clock {K : PySem.W.Frag} (c : SaysX bx fnl xsl K) : FunIs K (wd K) nm 73 d__wrong_clock := by
  obtain ⟨fd, F⟩ := c.def_ 73 (d := D__wrong_clock) rfl
  exact .plain (ps := (["clocks"] : List Str)) (N := n__wrong_clock) (dvs := []) rfl F S__wrong_clock rfl (fun _ _ _ => .nil) .nil (bindsFull F fun _ _ _ _ _ _ us hl => match us, hl with | [_], _ => rfl) rfl c__wrong_clock
theorem S__wrong_state : FnScope n__wrong_state (["states", "clocks"] : List Str) (defScope s__wrong_state) := ⟨rfl, rfl, rfl, by decide +kernel, rfl, by decide +kernel, by decide +kernel⟩
theorem I__wrong_state {K : PySem.W.Frag} (c : SaysX bx fnl xsl K) : FunIs K (wd K) nm 74 d__wrong_state := by
  obtain ⟨fd, F⟩ := c.def_ 74 (d := D__wrong_state) rfl
  exact .plain (ps := (["states", "clocks"] : List Str)) (N := n__wrong_state) (dvs := []) rfl F S__wrong_state rfl (fun _ _ _ => .nil) .nil (bindsFull F fun _ _ _ _ _ _ us hl => match us, hl with | [_, _], _ => rfl) rfl c__wrong_state
theorem S__wrong_step : FnScope n__wrong_step (["steps", "clocks", "names"] : List Str) (defScope s__wrong_step) := ⟨rfl, rfl, rfl, by decide +kernel, rfl, by decide +kernel, by decide +kernel⟩
theorem I__wrong_step {K : PySem.W.Frag} (c : SaysX bx fnl xsl K) : FunIs K (wd K) nm 75 d__wrong_step := by
  obtain ⟨fd, F⟩ := c.def_ 75 (d := D__wrong_step) rfl
  exact .plain (ps := (["steps", "clocks", "names"] : List Str)) (N := n__wrong_step) (dvs := []) rfl F S__wrong_step rfl (fun _ _ _ => .nil) .nil (bindsFull F fun _ _ _ _ _ _ us hl => match us, hl with | [_, _, _], _ => rfl) rfl c__wrong_step
theorem S__wrong_name : FnScope n__wrong_name (["names", "accepts"] : List Str) (defScope s__wrong_name) := ⟨rfl, rfl, rfl, by decide +kernel, rfl, by decide +kernel, by decide +kernel⟩
theorem I__wrong_name {K : PySem.W.Frag} (c : SaysX bx fnl xsl K) : FunIs K (wd K) nm 76 d__wrong_name := by
  obtain ⟨fd, F⟩ := c.def_ 76 (d := D__wrong_name) rfl
  exact .plain (ps := (["names", "accepts"] : List Str)) (N := n__wrong_name) (dvs := []) rfl F S__wrong_name rfl (fun _ _ _ => .nil) .nil (bindsFull F fun _ _ _ _ _ _ us hl => match us, hl with | [_, _], _ => rfl) rfl c__wrong_name
theorem S_is_simple : FnScope n_is_simple (["value"] : List Str) (defScope s_is_simple) := ⟨rfl, rfl, rfl, by decide +kernel, rfl, by decide +kernel, by decide +kernel⟩
theorem I_is_simple {K : PySem.W.Frag} (c : SaysX bx fnl xsl K) : FunIs K (wd K) nm 77 d_is_simple := by
  obtain ⟨fd, F⟩ := c.def_ 77 (d := D_is_simple) rfl
  exact .plain (ps := (["value"] : List Str)) (N := n_is_simple) (dvs := []) rfl F S_is_simple rfl (fun _ _ _ => .nil) .nil (bindsFull F fun _ _ _ _ _ _ us hl => match us, hl with | [_], _ => rfl) rfl c_is_simple
theorem S__wrong_entry : FnScope n__wrong_entry (["value"] : List Str) (defScope s__wrong_entry) := ⟨rfl, rfl, rfl, by decide +kernel, rfl, by decide +kernel, by decide +kernel⟩
theorem I__wrong_entry {K : PySem.W.Frag} (c : SaysX bx fnl xsl K) : FunIs K (wd K) nm 78 d__wrong_entry := by
  obtain ⟨fd, F⟩ := c.def_ 78 (d := D__wrong_entry) rfl
  exact .plain (ps := (["value"] : List Str)) (N := n__wrong_entry) (dvs := []) rfl F S__wrong_entry rfl (fun _ _ _ => .nil) .nil (bindsFull F fun _ _ _ _ _ _ us hl => match us, hl with | [_], _ => rfl) rfl c__wrong_entry
theorem S_start : FnScope n_start (["gate"] : List Str) (defScope s_start) := ⟨rfl, rfl, rfl, by decide +kernel, rfl, by decide +kernel, by decide +kernel⟩
theorem I_start {K : PySem.W.Frag} (c : SaysX bx fnl xsl K) : FunIs K (wd K) nm 79 d_start := by
  obtain ⟨fd, F⟩ := c.def_ 79 (d := D_start) rfl
  exact .plain (ps := (["gate"] : List Str)) (N := n_start) (dvs := []) rfl F S_start rfl (fun _ _ _ => .nil) .nil (bindsFull F fun _ _ _ _ _ _ us hl => match us, hl with | [_], _ => rfl) rfl c_start
theorem S__after_rest : FnScope n__after_rest (["gate", "standing", "wait"] : List Str) (defScope s__after_rest) := ⟨rfl, rfl, rfl, by decide +kernel, rfl, by decide +kernel, by decide +kernel⟩
theorem I__after_rest {K : PySem.W.Frag} (c : SaysX bx fnl xsl K) : FunIs K (wd K) nm 80 d__after_rest := by
  obtain ⟨fd, F⟩ := c.def_ 80 (d := D__after_rest) rfl
  exact .plain (ps := (["gate", "standing", "wait"] : List Str)) (N := n__after_rest) (dvs := []) rfl F S__after_rest rfl (fun _ _ _ => .nil) .nil (bindsFull F fun _ _ _ _ _ _ us hl => match us, hl with | [_, _, _], _ => rfl) rfl c__after_rest
theorem S__after_step : FnScope n__after_step (["gate", "standing", "step"] : List Str) (defScope s__after_step) := ⟨rfl, rfl, rfl, by decide +kernel, rfl, by decide +kernel, by decide +kernel⟩
theorem I__after_step {K : PySem.W.Frag} (c : SaysX bx fnl xsl K) : FunIs K (wd K) nm 81 d__after_step := by
  obtain ⟨fd, F⟩ := c.def_ 81 (d := D__after_step) rfl
  exact .plain (ps := (["gate", "standing", "step"] : List Str)) (N := n__after_step) (dvs := []) rfl F S__after_step rfl (fun _ _ _ => .nil) .nil (bindsFull F fun _ _ _ _ _ _ us hl => match us, hl with | [_, _, _], _ => rfl) rfl c__after_step
theorem S__rests_before : FnScope n__rests_before (["row"] : List Str) (defScope s__rests_before) := ⟨rfl, rfl, rfl, by decide +kernel, rfl, by decide +kernel, by decide +kernel⟩
theorem I__rests_before {K : PySem.W.Frag} (c : SaysX bx fnl xsl K) : FunIs K (wd K) nm 82 d__rests_before := by
  obtain ⟨fd, F⟩ := c.def_ 82 (d := D__rests_before) rfl
  exact .plain (ps := (["row"] : List Str)) (N := n__rests_before) (dvs := []) rfl F S__rests_before rfl (fun _ _ _ => .nil) .nil (bindsFull F fun _ _ _ _ _ _ us hl => match us, hl with | [_], _ => rfl) rfl c__rests_before
theorem S_moment : FnScope n_moment (["numerator", "denominator"] : List Str) (defScope s_moment) := ⟨rfl, rfl, rfl, by decide +kernel, rfl, by decide +kernel, by decide +kernel⟩
theorem I_moment {K : PySem.W.Frag} (c : SaysX bx fnl xsl K) : FunIs K (wd K) nm 83 d_moment := by
  obtain ⟨fd, F⟩ := c.def_ 83 (d := D_moment) rfl
  obtain ⟨ds, v, b⟩ := F.binds1 (ps := (["numerator", "denominator"] : List Str)) 2 1 (by simp [D_moment, DefD.dvs]) rfl fun T kV doc pm an cdv ct us its h1 h2 => match us, its, h1, h2 with | [_, _], [_], _, _ => ⟨_, rfl, rfl⟩
  exact .plain (ps := (["numerator", "denominator"] : List Str)) (N := n_moment) (dvs := []) rfl F S_moment rfl (fun _ _ _ => .nil) v b rfl c_moment
theorem S_compared : FnScope n_compared (["first", "second"] : List Str) (defScope s_compared) := ⟨rfl, rfl, rfl, by decide +kernel, rfl, by decide +kernel, by decide +kernel⟩
theorem I_compared {K : PySem.W.Frag} (c : SaysX bx fnl xsl K) : FunIs K (wd K) nm 84 d_compared := by
  obtain ⟨fd, F⟩ := c.def_ 84 (d := D_compared) rfl
  exact .plain (ps := (["first", "second"] : List Str)) (N := n_compared) (dvs := []) rfl F S_compared rfl (fun _ _ _ => .nil) .nil (bindsFull F fun _ _ _ _ _ _ us hl => match us, hl with | [_, _], _ => rfl) rfl c_compared
theorem S_Gate_stay_of : FnScope n_Gate_stay_of (["self", "state"] : List Str) (defScope s_Gate_stay_of) := ⟨rfl, rfl, rfl, by decide +kernel, rfl, by decide +kernel, by decide +kernel⟩
theorem I_Gate_stay_of {K : PySem.W.Frag} (c : SaysX bx fnl xsl K) : FunIs K (wd K) nm 85 d_Gate_stay_of := by
  obtain ⟨fd, F⟩ := c.def_ 85 (d := D_Gate_stay_of) rfl
  exact .plain (ps := (["self", "state"] : List Str)) (N := n_Gate_stay_of) (dvs := []) rfl F S_Gate_stay_of rfl (fun _ _ _ => .nil) .nil (bindsFull F fun _ _ _ _ _ _ us hl => match us, hl with | [_, _], _ => rfl) rfl c_Gate_stay_of
theorem S_least_cap : FnScope n_least_cap (["caps"] : List Str) (defScope s_least_cap) := ⟨rfl, rfl, rfl, by decide +kernel, rfl, by decide +kernel, by decide +kernel⟩
theorem I_least_cap {K : PySem.W.Frag} (c : SaysX bx fnl xsl K) : FunIs K (wd K) nm 86 d_least_cap := by
  obtain ⟨fd, F⟩ := c.def_ 86 (d := D_least_cap) rfl
  exact .star (ps := ([] : List Str)) (pv := "caps") (N := n_least_cap) rfl F S_least_cap rfl (fun kV doc pm an cdv ct us rest hl => match us, rest, hl with | [], [], _ => rfl | [], _ :: _, _ => rfl) rfl c_least_cap
theorem S_is_whole : FnScope n_is_whole (["value"] : List Str) (defScope s_is_whole) := ⟨rfl, rfl, rfl, by decide +kernel, rfl, by decide +kernel, by decide +kernel⟩
theorem I_is_whole {K : PySem.W.Frag} (c : SaysX bx fnl xsl K) : FunIs K (wd K) nm 87 d_is_whole := by
  obtain ⟨fd, F⟩ := c.def_ 87 (d := D_is_whole) rfl
  exact .plain (ps := (["value"] : List Str)) (N := n_is_whole) (dvs := []) rfl F S_is_whole rfl (fun _ _ _ => .nil) .nil (bindsFull F fun _ _ _ _ _ _ us hl => match us, hl with | [_], _ => rfl) rfl c_is_whole
theorem S_is_cap : FnScope n_is_cap (["value"] : List Str) (defScope s_is_cap) := ⟨rfl, rfl, rfl, by decide +kernel, rfl, by decide +kernel, by decide +kernel⟩
theorem I_is_cap {K : PySem.W.Frag} (c : SaysX bx fnl xsl K) : FunIs K (wd K) nm 88 d_is_cap := by
  obtain ⟨fd, F⟩ := c.def_ 88 (d := D_is_cap) rfl
  exact .plain (ps := (["value"] : List Str)) (N := n_is_cap) (dvs := []) rfl F S_is_cap rfl (fun _ _ _ => .nil) .nil (bindsFull F fun _ _ _ _ _ _ us hl => match us, hl with | [_], _ => rfl) rfl c_is_cap
theorem S__are_clock_pairs : FnScope n__are_clock_pairs (["clocks", "value", "accepts"] : List Str) (defScope s__are_clock_pairs) := ⟨rfl, rfl, rfl, by decide +kernel, rfl, by decide +kernel, by decide +kernel⟩
theorem I__are_clock_pairs {K : PySem.W.Frag} (c : SaysX bx fnl xsl K) : FunIs K (wd K) nm 89 d__are_clock_pairs := by
  obtain ⟨fd, F⟩ := c.def_ 89 (d := D__are_clock_pairs) rfl
  exact .plain (ps := (["clocks", "value", "accepts"] : List Str)) (N := n__are_clock_pairs) (dvs := []) rfl F S__are_clock_pairs rfl (fun _ _ _ => .nil) .nil (bindsFull F fun _ _ _ _ _ _ us hl => match us, hl with | [_, _, _], _ => rfl) rfl c__are_clock_pairs
theorem S__is_stay_edge : FnScope n__is_stay_edge (["value"] : List Str) (defScope s__is_stay_edge) := ⟨rfl, rfl, rfl, by decide +kernel, rfl, by decide +kernel, by decide +kernel⟩
theorem I__is_stay_edge {K : PySem.W.Frag} (c : SaysX bx fnl xsl K) : FunIs K (wd K) nm 90 d__is_stay_edge := by
  obtain ⟨fd, F⟩ := c.def_ 90 (d := D__is_stay_edge) rfl
  exact .plain (ps := (["value"] : List Str)) (N := n__is_stay_edge) (dvs := []) rfl F S__is_stay_edge rfl (fun _ _ _ => .nil) .nil (bindsFull F fun _ _ _ _ _ _ us hl => match us, hl with | [_], _ => rfl) rfl c__is_stay_edge
theorem S__is_step : FnScope n__is_step (["value", "clocks", "names"] : List Str) (defScope s__is_step) := ⟨rfl, rfl, rfl, by decide +kernel, rfl, by decide +kernel, by decide +kernel⟩
theorem I__is_step {K : PySem.W.Frag} (c : SaysX bx fnl xsl K) : FunIs K (wd K) nm 91 d__is_step := by
  obtain ⟨fd, F⟩ := c.def_ 91 (d := D__is_step) rfl
  exact .plain (ps := (["value", "clocks", "names"] : List Str)) (N := n__is_step) (dvs := []) rfl F S__is_step rfl (fun _ _ _ => .nil) .nil (bindsFull F fun _ _ _ _ _ _ us hl => match us, hl with | [_, _, _], _ => rfl) rfl c__is_step
theorem S_is_moment : FnScope n_is_moment (["value"] : List Str) (defScope s_is_moment) := ⟨rfl, rfl, rfl, by decide +kernel, rfl, by decide +kernel, by decide +kernel⟩
theorem I_is_moment {K : PySem.W.Frag} (c : SaysX bx fnl xsl K) : FunIs K (wd K) nm 92 d_is_moment := by
  obtain ⟨fd, F⟩ := c.def_ 92 (d := D_is_moment) rfl
  exact .plain (ps := (["value"] : List Str)) (N := n_is_moment) (dvs := []) rfl F S_is_moment rfl (fun _ _ _ => .nil) .nil (bindsFull F fun _ _ _ _ _ _ us hl => match us, hl with | [_], _ => rfl) rfl c_is_moment
theorem S_advanced : FnScope n_advanced (["readings", "wait"] : List Str) (defScope s_advanced) := ⟨rfl, rfl, rfl, by decide +kernel, rfl, by decide +kernel, by decide +kernel⟩
theorem I_advanced {K : PySem.W.Frag} (c : SaysX bx fnl xsl K) : FunIs K (wd K) nm 93 d_advanced := by
  obtain ⟨fd, F⟩ := c.def_ 93 (d := D_advanced) rfl
  exact .plain (ps := (["readings", "wait"] : List Str)) (N := n_advanced) (dvs := []) rfl F S_advanced rfl (fun _ _ _ => .nil) .nil (bindsFull F fun _ _ _ _ _ _ us hl => match us, hl with | [_, _], _ => rfl) rfl c_advanced
theorem S_stay_holds : FnScope n_stay_holds (["gate", "state", "readings"] : List Str) (defScope s_stay_holds) := ⟨rfl, rfl, rfl, by decide +kernel, rfl, by decide +kernel, by decide +kernel⟩
theorem I_stay_holds {K : PySem.W.Frag} (c : SaysX bx fnl xsl K) : FunIs K (wd K) nm 94 d_stay_holds := by
  obtain ⟨fd, F⟩ := c.def_ 94 (d := D_stay_holds) rfl
  exact .plain (ps := (["gate", "state", "readings"] : List Str)) (N := n_stay_holds) (dvs := []) rfl F S_stay_holds rfl (fun _ _ _ => .nil) .nil (bindsFull F fun _ _ _ _ _ _ us hl => match us, hl with | [_, _, _], _ => rfl) rfl c_stay_holds
theorem S_test_holds : FnScope n_test_holds (["gate", "test", "readings"] : List Str) (defScope s_test_holds) := ⟨rfl, rfl, rfl, by decide +kernel, rfl, by decide +kernel, by decide +kernel⟩
theorem I_test_holds {K : PySem.W.Frag} (c : SaysX bx fnl xsl K) : FunIs K (wd K) nm 95 d_test_holds := by
  obtain ⟨fd, F⟩ := c.def_ 95 (d := D_test_holds) rfl
  exact .plain (ps := (["gate", "test", "readings"] : List Str)) (N := n_test_holds) (dvs := []) rfl F S_test_holds rfl (fun _ _ _ => .nil) .nil (bindsFull F fun _ _ _ _ _ _ us hl => match us, hl with | [_, _, _], _ => rfl) rfl c_test_holds
theorem S_Gate_state_index : FnScope n_Gate_state_index (["self", "state"] : List Str) (defScope s_Gate_state_index) := ⟨rfl, rfl, rfl, by decide +kernel, rfl, by decide +kernel, by decide +kernel⟩
theorem I_Gate_state_index {K : PySem.W.Frag} (c : SaysX bx fnl xsl K) : FunIs K (wd K) nm 96 d_Gate_state_index := by
  obtain ⟨fd, F⟩ := c.def_ 96 (d := D_Gate_state_index) rfl
  exact .plain (ps := (["self", "state"] : List Str)) (N := n_Gate_state_index) (dvs := []) rfl F S_Gate_state_index rfl (fun _ _ _ => .nil) .nil (bindsFull F fun _ _ _ _ _ _ us hl => match us, hl with | [_, _], _ => rfl) rfl c_Gate_state_index
theorem S_is_edge : FnScope n_is_edge (["value"] : List Str) (defScope s_is_edge) := ⟨rfl, rfl, rfl, by decide +kernel, rfl, by decide +kernel, by decide +kernel⟩
theorem I_is_edge {K : PySem.W.Frag} (c : SaysX bx fnl xsl K) : FunIs K (wd K) nm 97 d_is_edge := by
  obtain ⟨fd, F⟩ := c.def_ 97 (d := D_is_edge) rfl
  exact .plain (ps := (["value"] : List Str)) (N := n_is_edge) (dvs := []) rfl F S_is_edge rfl (fun _ _ _ => .nil) .nil (bindsFull F fun _ _ _ _ _ _ us hl => match us, hl with | [_], _ => rfl) rfl c_is_edge
theorem S_is_span : FnScope n_is_span (["value"] : List Str) (defScope s_is_span) := ⟨rfl, rfl, rfl, by decide +kernel, rfl, by decide +kernel, by decide +kernel⟩
theorem I_is_span {K : PySem.W.Frag} (c : SaysX bx fnl xsl K) : FunIs K (wd K) nm 98 d_is_span := by
  obtain ⟨fd, F⟩ := c.def_ 98 (d := D_is_span) rfl
  exact .plain (ps := (["value"] : List Str)) (N := n_is_span) (dvs := []) rfl F S_is_span rfl (fun _ _ _ => .nil) .nil (bindsFull F fun _ _ _ _ _ _ us hl => match us, hl with | [_], _ => rfl) rfl c_is_span
theorem S_added : FnScope n_added (["moments"] : List Str) (defScope s_added) := ⟨rfl, rfl, rfl, by decide +kernel, rfl, by decide +kernel, by decide +kernel⟩
theorem I_added {K : PySem.W.Frag} (c : SaysX bx fnl xsl K) : FunIs K (wd K) nm 99 d_added := by
  obtain ⟨fd, F⟩ := c.def_ 99 (d := D_added) rfl
  exact .star (ps := ([] : List Str)) (pv := "moments") (N := n_added) rfl F S_added rfl (fun kV doc pm an cdv ct us rest hl => match us, rest, hl with | [], [], _ => rfl | [], _ :: _, _ => rfl) rfl c_added
theorem S_in_span : FnScope n_in_span (["moment", "span"] : List Str) (defScope s_in_span) := ⟨rfl, rfl, rfl, by decide +kernel, rfl, by decide +kernel, by decide +kernel⟩
theorem I_in_span {K : PySem.W.Frag} (c : SaysX bx fnl xsl K) : FunIs K (wd K) nm 100 d_in_span := by
  obtain ⟨fd, F⟩ := c.def_ 100 (d := D_in_span) rfl
  exact .plain (ps := (["moment", "span"] : List Str)) (N := n_in_span) (dvs := []) rfl F S_in_span rfl (fun _ _ _ => .nil) .nil (bindsFull F fun _ _ _ _ _ _ us hl => match us, hl with | [_, _], _ => rfl) rfl c_in_span
theorem defs {K : PySem.W.Frag} (c : SaysX bx fnl xsl K) (f : Nat) (d : Fd) (e : tab.fns f = some d) : FunIs K (wd K) nm f d := by
  have e : fns f = some d := e
  unfold fns at e
  split at e
  · cases e; exact I_law c
  · cases e; exact I__law_box c
  · cases e; exact I__law_take c
  · cases e; exact I__law_words c
  · cases e; exact I__law_card c
  · cases e; exact I__law_led c
  · cases e; exact I__law_low c
  · cases e; exact I__law_scaled c
  · cases e; exact I__law_gate c
  · cases e; exact I__law_no_place c
  · cases e; exact I_path_table c
  · cases e; exact I__law_is_table c
  · cases e; exact I__law_place_holds c
  · cases e; exact I__law_dotted c
  · cases e; exact I__law_stay c
  · cases e; exact I__law_step c
  · cases e; exact I__law_some c
  · cases e; exact I__law_begin c
  · cases e; exact I__law_less c
  · cases e; exact I__law_plus c
  · cases e; exact I__law_rested c
  · cases e; exact I__law_let c
  · cases e; exact I__law_after c
  · cases e; exact I__law_scaled_edge c
  · cases e; exact I_Gate_init c
  · cases e; exact I_slack c
  · cases e; exact I_path_conditions c
  · cases e; exact I__test_conditions c
  · cases e; exact I_close c
  · cases e; exact I_table_with c
  · cases e; exact I__law_is_cap c
  · cases e; exact I__law_is_bound c
  · cases e; exact I__law_piece c
  · cases e; exact I__law_moved c
  · cases e; exact I__law_run_end c
  · cases e; exact I__law_within c
  · cases e; exact I_keeps c
  · cases e; exact I__law_tried c
  · cases e; exact I__law_test c
  · cases e; exact I__law_stays c
  · cases e; exact I__law_holds c
  · cases e; exact I__check_parts c
  · cases e; exact I__deeds_in c
  · cases e; exact I__ceilings_in c
  · cases e; exact I__places_of c
  · cases e; exact I__steps_by_source c
  · cases e; exact I_check_row c
  · cases e; exact I_standing_after c
  · cases e; exact I_since c
  · cases e; exact I__lesser_high c
  · cases e; exact I__high_beside c
  · cases e; exact I__greater_low c
  · cases e; exact I__low_beside c
  · cases e; exact I__states_along c
  · cases e; exact I__stay_conditions c
  · cases e; exact I_last_reset c
  · cases e; exact I_Gate_clock_number c
  · cases e; exact I_span_caps c
  · cases e; exact I_effective c
  · cases e; exact I_row_through c
  · cases e; exact I_is_condition c
  · cases e; exact I_tightened c
  · cases e; exact I__law_whole c
  · cases e; exact I__law_is_moment c
  · cases e; exact I__law_shift c
  · cases e; exact I__law_gap c
  · cases e; exact I__law_is_row c
  · cases e; exact I_cap_allows c
  · cases e; exact I__law_total c
  · cases e; exact I__law_span c
  · cases e; exact I__law_stay_of c
  · cases e; exact I__law_in c
  · cases e; exact I_is_name c
  · cases e; exact I__wrong_clock c
  · cases e; exact I__wrong_state c
  · cases e; exact I__wrong_step c
  · cases e; exact I__wrong_name c
  · cases e; exact I_is_simple c
  · cases e; exact I__wrong_entry c
  · cases e; exact I_start c
  · cases e; exact I__after_rest c
  · cases e; exact I__after_step c
  · cases e; exact I__rests_before c
  · cases e; exact I_moment c
  · cases e; exact I_compared c
  · cases e; exact I_Gate_stay_of c
  · cases e; exact I_least_cap c
  · cases e; exact I_is_whole c
  · cases e; exact I_is_cap c
  · cases e; exact I__are_clock_pairs c
  · cases e; exact I__is_stay_edge c
  · cases e; exact I__is_step c
  · cases e; exact I_is_moment c
  · cases e; exact I_advanced c
  · cases e; exact I_stay_holds c
  · cases e; exact I_test_holds c
  · cases e; exact I_Gate_state_index c
  · cases e; exact I_is_edge c
  · cases e; exact I_is_span c
  · cases e; exact I_added c
  · cases e; exact I_in_span c
  · cases e
end K87
end
section
set_option Elab.async false
set_option linter.all false
set_option maxRecDepth 100000
set_option maxHeartbeats 4000000
/-! K87End: the law's promise. -/
namespace K87
open PySem PySem.W PySem.Spec PyProof.Rows L2 BR He
theorem xcall_eq {j : Nat} {txt : Str} {p0 p1 p2 p3 p4 : Pos} (h : (p2.endLine == p4.line) = true) (env : PySem.Env) : eval (.Call (.Attribute (.Call (.Name "super" p0) [] [] p1) "__init__" p2) [.Constant (.str txt) j p3] [] p4) env = (do
      let ov ← attributeBase (.Call (.Name "super" p0) [] [] p1) "__init__" env (eval (.Call (.Name "super" p0) [] [] p1) env)
      standAt p2.atName
      let (f, first) ← holding [ov] (getMethod ov "__init__" (do return (← importBound (.Call (.Name "super" p0) [] [] p1) env).getD true))
      callWith p4 f first (backTo p4 (starEach [.Constant (.str txt) j p3] env)) []) := by
  have k : methodCallPos true (.Call (.Name "super" p0) [] [] p1) env p2 p4 = pure p4 := by
    unfold methodCallPos
    rw [h]
    rfl
  have e : eval (.Call (.Attribute (.Call (.Name "super" p0) [] [] p1) "__init__" p2) [.Constant (.str txt) j p3] [] p4) env = (do
      let ov ← attributeBase (.Call (.Name "super" p0) [] [] p1) "__init__" env (eval (.Call (.Name "super" p0) [] [] p1) env)
      standAt p2.atName
      let (f, first) ← holding [ov] (calleeOf true (.Call (.Name "super" p0) [] [] p1) env ov "__init__")
      let callPos ← methodCallPos true (.Call (.Name "super" p0) [] [] p1) env p2 p4
      callWith callPos f first (backTo p4 (starEach [.Constant (.str txt) j p3] env)) []) := rfl
  rw [e, k]
  rfl
theorem bodyI : ∃ j p0 p1 p2 p3 p4 p5 p6 p7 p8 p9, (p2.endLine == p4.line) = true ∧ defBody s_InvalidRow_init = xinB "self" "index" "index" "the entry of the row is invalid" j p0 p1 p2 p3 p4 p5 p6 p7 p8 p9 := by
  refine ⟨_, _, _, _, _, _, _, _, _, _, _, ?_, rfl⟩
  decide +kernel
theorem argI : ∃ ar, ((defArgs s_InvalidRow_init).posonlyargs ++ (defArgs s_InvalidRow_init).args).head? = some ar ∧ ar.arg = "self" := ⟨_, rfl, rfl⟩
theorem scI : (defScope s_InvalidRow_init).kind = .function ∧ (defScope s_InvalidRow_init).isCoroutine = false ∧ (defScope s_InvalidRow_init).isGenerator = false := ⟨rfl, rfl, rfl⟩
theorem scI2 : (∀ y ∈ (defScope s_InvalidRow_init).names, y.2 ≠ .cell) ∧ (defScope s_InvalidRow_init).names.lookup ("self" : Str) = some .local ∧ (defScope s_InvalidRow_init).names.lookup ("index" : Str) = some .local ∧ (defScope s_InvalidRow_init).names.lookup ("super" : Str) = some .globalImplicit ∧ (defScope s_InvalidRow_init).names.lookup ("__class__" : Str) = some .free := by
  refine ⟨by decide +kernel, by decide +kernel, by decide +kernel, by decide +kernel, by decide +kernel⟩
theorem lookup_mem {β : Type} {y : Str} {z : β} : ∀ {l : List (Str × β)}, l.lookup y = some z → (y, z) ∈ l
  | [], h => by cases h
  | (a, b) :: l, h => by
    by_cases e : (y == a) = true
    · have e2 := eq_of_beq e
      subst e2
      simp [List.lookup] at h
      rw [h]
      exact List.mem_cons_self ..
    · have e2 : (y == a) = false := by simpa using e
      simp only [List.lookup, e2] at h
      exact List.mem_cons_of_mem _ (lookup_mem h)
theorem onlI (y : Str) (h : (defScope s_InvalidRow_init).names.lookup y = some .cell ∨ (defScope s_InvalidRow_init).names.lookup y = some .free) : y = "__class__" := by
  have all : ∀ q ∈ (defScope s_InvalidRow_init).names, (q.2 = .cell ∨ q.2 = .free) → q.1 = "__class__" := by decide +kernel
  rcases h with h | h
  · exact all _ (lookup_mem h) (.inl rfl)
  · exact all _ (lookup_mem h) (.inr rfl)
section
variable {P : Program} {w : World} {K : PySem.W.Frag} {mg : Str → Option Value} {base h0 : Heap}
theorem ownX_InvalidRow (c : SaysX bx fnl xsl K) (X : K.In h0) (G : h0.Ns mainGlobals mg) (hfile : ((P.main.file : Str) == ("/claim/cut.py" : Str)) = true) (htop : (P.main.scope.names.lookup ("super" : Str)).isSome = false) :
    OwnX P w K mg base (ga K "InvalidRow") "index" := by
  obtain ⟨j, p0, p1, p2, p3, p4, p5, p6, p7, p8, p9, hl, hb⟩ := bodyI
  obtain ⟨ar, ha, har⟩ := argI
  exact own_of (d := D_InvalidRow_init) (file := "/claim/cut.py") (c.cls_ 0 rfl) (own_InvalidRow c.all) hb ha har scI.1 scI.2.1 scI.2.2 scI2.1 scI2.2.1 scI2.2.2.1 (by decide) onlI scI2.2.2.2.1 scI2.2.2.2.2 (by decide) (by decide) (by decide) (by decide) hfile htop (free_ok X G (free_super c.all))
    (fun _ _ _ _ _ _ _ us hl => match us, hl with | [_, _], _ => rfl) (xcall_eq hl)
theorem rai (c : SaysX bx fnl xsl K) (X : K.In h0) (G : h0.Ns mainGlobals mg) (hfile : ((P.main.file : Str) == ("/claim/cut.py" : Str)) = true) (htop : (P.main.scope.names.lookup ("super" : Str)).isSome = false) (n : Nat) :
    RaiOk P w K mg base (wd K) nm tab (runF tab n) := by
  refine rai_of (grd X G c.all) fun i hi => ?_
  have hi : [1].contains i = true := hi
  have e : i = 1 := by simpa using hi
  subst e
  exact ⟨2, rfl, ownX_InvalidRow c X G hfile htop⟩
theorem fn_ok1 {W : Wd} {nm : Nms} {T : Tab} (g : Grd K mg W nm T) {k n : Nat} (hr : RaiOk P w K mg base W nm T (runF T n)) (F : ∀ f, FnR P w K mg base (L2.CX P w) k (W.fa f) (spF W (runF T n) f)) {d : Fd} {f : Nat} (ef : T.fns f = some d) (hs : d.star = false) (h0 : d.dfl = [])
    {x qual : Str} {params : Arguments} {body : List Stmt} {scope : Scope} {dvs0 : List V} {fd : FuncData} {N ps : List Str} (fun_ : FunD K x qual params body scope dvs0 [] (W.fa f) fd) (sc : FnScope N ps scope) (np : ps.length = d.np) (ns : N.length = d.ns) (chk : chkSs nm N scope d.body body = true) :
    FnOk P w K mg base (L2.CX P w) (k + 2) (W.fa f) fd ps (fun vs H Q E => vs.length = ps.length ∧ spF W (runF T (n + 1)) f vs H Q E) := by
  have F1 : FnOk P w K mg base (L2.CX P w) (k + 2) (W.fa f) fd ps (fun ws H Q E => ∃ st m ys, ys.length = ps.length ∧ RSt W st m H ∧ RepL W st m H ws ys ∧ Sem W E st m H (fin st (exec T (runF T n) d.body (ys.map some ++ List.replicate (N.length - ys.length) none) st)) (RpV W) Q) :=
    fun_.ok sc (fun vs H Q E ⟨st, m, ys, hl, _, q, _⟩ => by rw [q.length]; exact hl) fun cdv A outer s H vs Q E room ⟨st, m, ys, hl, rs, q, h⟩ => body_ok g hr sc room F chk rs q rfl h
  refine F1.imp fun vs H Q E ⟨hv, st, m, xs, rs, q, h⟩ => ?_
  simp only [runF, ef] at h
  unfold pars at h
  rw [hs] at h
  simp only [Bool.false_eq_true, if_false] at h
  split at h
  · exact h.elim
  · rename_i env he
    split at he
    · rename_i hl
      cases he
      rw [h0, List.map_nil, List.append_nil, List.length_nil, Nat.add_zero] at h
      refine ⟨st, m, xs, by rw [hl, np], rs, q, ?_⟩
      rw [ns, hl]
      exact h
    · cases he
theorem rep_ints {W : Wd} {st : Sto} {m : Mp} {H : Hp} : ∀ ns : List Int, RepL W st m H (ns.map V.int) (ns.map PV.int)
  | [] => .nil
  | n :: ns => .cons (.int n) (rep_ints ns)
theorem law_ok (c : SaysX bx fnl xsl K) (X : K.In h0) (G : h0.Ns mainGlobals mg) (hfile : ((P.main.file : Str) == ("/claim/cut.py" : Str)) = true) (htop : (P.main.scope.names.lookup ("super" : Str)).isSome = false) {fd : FuncData}
    (FL : FunD K D_law.name D_law.qual D_law.params D_law.body D_law.scope (D_law.dvs K) (D_law.kws K) (fAd K D_law.at_) fd) :
    FnOk P w K mg base (L2.CX P w) 22 (ga K "law") fd ["_law_script"] (fun vs H Q E => vs.length = 1 ∧ spF (wd K) (runF tab 11) f_law vs H Q E) :=
  fn_ok1 (W := wd K) (nm := nm) (T := tab) (n := 10) (f := f_law) (d := d_law) (grd X G c.all) (rai c X G hfile htop 10) (fn_all (grd X G c.all) (rai c X G hfile htop) (defs c) 10) rfl rfl rfl FL S_law rfl rfl c_law
theorem law_sp {H : Hp} {a : Addr} {ns : List Int} (hl : ns.length ≤ sizeLine) (hO : Only H) (hS : SqL K H a (ns.map V.int)) : spF (wd K) (runF tab 11) f_law [.ref a] H (fun v _ => v = .bl true) fun _ _ _ => False := by
  obtain ⟨v, st', e, y⟩ := law_run 0 ns
  have rs : RSt (wd K) [] ⟨fun _ => 0, fun _ => False⟩ H := ⟨fun n c h => by simp at h, fun n n' c c' h => by simp at h, fun a h => h.elim, fun n c h => by simp at h⟩
  have no : ¬ Own [] ⟨fun _ => 0, fun _ => False⟩ a := fun h => by
    rcases h with ⟨n, c, h, _⟩ | h
    · simp at h
    · exact h
  have rp : Rep (wd K) [] ⟨fun _ => 0, fun _ => False⟩ H (.ref a) (.arg (ns.map .int)) := by
    rcases hS with (h | ⟨o, h⟩) | h
    · rcases hO a with z | ⟨o, xs, z⟩
      · rw [z] at h; cases h
      · rw [z] at h
        have h2 := Option.some.inj h
        have h3 : HO.frz o (.lst xs) = HO.lst (ns.map V.int) := h2
        cases h3
    · exact .arg h no (by simpa using hl) (rep_ints ns)
    · exact .argK h (by simpa using hl) (rep_ints ns)
  refine ⟨[], ⟨fun _ => 0, fun _ => False⟩, [.arg (ns.map .int)], rs, .cons rp .nil, ?_⟩
  rw [show runF tab 11 f_law [.arg (ns.map .int)] [] = some (.ok v st') from e]
  intro b H' m' _ _ r
  have y : v = .bl true := y
  subst y
  cases r
  rfl
end
theorem walk_ofX {l : PySem.W.OpenLaw} {n k : Nat} {q : Program} {loose : List Str} {XP : (Str → Option Value) → Heap → Prop} {YP : World → Heap → Prop} {d : DefRec} {x : Str}
    (hn : l.most = some n) (hn2 : n ≤ sizeLine) (hdf : d.params.defaults = []) (hr : Room k callerA)
    (F : ∀ (w : World) (mg : Str → Option Value) (fa : Addr) (h : Heap), YP w h → h.Ns mainGlobals mg → mg d.name = some (.ref fa) →
      ∃ (K : PySem.W.Frag) (fd : FuncData) (sp : Sp), K.In h ∧ (∀ (s : Shared) (u : Value), BindsTo s fd ⟨[u], []⟩ [(x, u)]) ∧
        (∀ (H : Hp) (a : Addr) (ns : List Int), ns.length ≤ n → Only H → SqL K H a (ns.map V.int) → sp [.ref a] H (fun v _ => v = .bl true) fun _ _ _ => False) ∧
        ∀ base : Heap, K.In base → base.Ns mainGlobals mg → FnOk l.prog w K mg base (L2.CX l.prog w) k fa fd [x] sp) :
    PySem.W.WalkO q loose XP YP l.row.toRowW d [] (fun f vs => PySem.call f vs) := by
  refine Att.attach_call hn hdf fun w s₀ s₁ mg mb fa o pm cd doc a vs ns G Y ho hd hcd hmg hobj hints hlen hg => ?_
  obtain ⟨K, fd, sp, KX, hb, hsp, hF⟩ := F w mg fa _ Y G.T.g hmg
  exact law_call KX G.T.g G.T.b G.T.builtins G.T.nolimit hg hobj hints (Nat.le_trans hlen hn2) hr hF hb (fun H hO hS => hsp H a ns hlen hO hS) fun H e s' z => by
    obtain ⟨_, _, _, _, _, _, _, _, _, _, _, _, h⟩ := z
    exact h
theorem fa_law {K : PySem.W.Frag} {h : Heap} {mg : Str → Option Value} {fa : Addr} (X : K.In h) (G : h.Ns mainGlobals mg) (hb : bx K = true) (e : mg ("law" : Str) = some (.ref fa)) : fa = ga K "law" := by
  have z : mg ("law" : Str) = some (.ref (ga K "law")) := (grd X G hb).fn 0 rfl
  rw [z] at e
  injection e with e
  injection e with e
  exact e.symm
theorem law_f {P : Program} {w : World} {K : PySem.W.Frag} {h : Heap} {mg : Str → Option Value} {fa : Addr} (KX : K.In h) (G : h.Ns mainGlobals mg) (c : SaysX bx fnl xsl K) (e : mg ("law" : Str) = some (.ref fa)) (hfile : ((P.main.file : Str) == ("/claim/cut.py" : Str)) = true) (htop : (P.main.scope.names.lookup ("super" : Str)).isSome = false) :
    ∃ (fd : FuncData) (sp : Sp), (∀ (s : Shared) (u : Value), BindsTo s fd ⟨[u], []⟩ [("_law_script", u)]) ∧
        (∀ (H : Hp) (a : Addr) (ns : List Int), ns.length ≤ 63 → Only H → SqL K H a (ns.map V.int) → sp [.ref a] H (fun v _ => v = .bl true) fun _ _ _ => False) ∧
        ∀ base : Heap, K.In base → base.Ns mainGlobals mg → FnOk P w K mg base (L2.CX P w) 22 fa fd ["_law_script"] sp := by
  obtain ⟨fd, FL⟩ := c.def_ 0 (d := D_law) rfl
  have b := FunD.bindsA (ps := ["_law_script"]) FL fun _ _ _ _ _ _ us hl => match us, hl with | [_], _ => rfl
  have e := fa_law KX G c.all e
  subst e
  exact ⟨fd, _, fun s v => b s [v] rfl, fun H a ns hl hO hS => ⟨rfl, law_sp (Nat.le_trans hl (by rw [sizeLine_eq]; decide)) hO hS⟩, fun base _ _ => law_ok c KX G hfile htop FL⟩
end K87
end
set_option Elab.async false
set_option linter.all false
set_option maxRecDepth 100000
set_option maxHeartbeats 0
/-! K87Fin: the claim. -/
namespace K87
open PySem PySem.W PySem.Calls PyProof.Rows
theorem walks : WalkO qv loose (XL qv []) hk.says (OpenLaw.row PySem.Challenge.rw_bellrest_k87_slack_in_tables).toRowW dd [] (fun f vs => PySem.call f vs) := by
  refine walk_ofX (l := PySem.Challenge.rw_bellrest_k87_slack_in_tables) (n := 63) (k := 22) (x := "_law_script") rfl (by decide) f_dfl ⟨rfl, by decide, by decide⟩ ?F
  intro w mg fa h Y G hmg
  obtain ⟨K, KX, c⟩ := Y
  rw [f_name] at hmg
  obtain ⟨fd, sp, h1, h2, h3⟩ := law_f (P := (PySem.Challenge.rw_bellrest_k87_slack_in_tables).prog) (w := w) KX G c hmg f_file f_sup
  exact ⟨K, fd, sp, KX, h1, h2, h3⟩
theorem row_holds (said : (OpenLaw.row PySem.Challenge.rw_bellrest_k87_slack_in_tables).wellSaid = true) : (OpenLaw.row PySem.Challenge.rw_bellrest_k87_slack_in_tables).Holds :=
  HandSHeadRun.head_imp (r := OpenLaw.row PySem.Challenge.rw_bellrest_k87_slack_in_tables) (q := qv) (H := hk) (ob := ob) (M := 20000) (loose := loose) (d := dd) (kwd := []) ob_eq run f_def f_the f_kw f_wr said f_ok f_bare f_wit walks
end K87
open PySem PySem.W PySem.Calls PyProof.Rows
theorem PySem.Challenge.cw_bellrest_k87_slack_in_tables_holds : PySem.Challenge.rw_bellrest_k87_slack_in_tables.Holds := by
  w_on; o_law
  exact K87.row_holds (by assumption)
